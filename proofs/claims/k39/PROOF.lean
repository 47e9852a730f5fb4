import PyProof.Rows.All
import Wide.All
import OpenK.AllK
import Wide.FinOn
import KE.SortData
import HandS.ForMost
import HandS.TupAny
import HandS.Deep
import KE.KDictKeyed
import HandS.Exc
import HandS.ExcOwn
import HandS.TryMany
import HandS.ExcInit
import HandS.CallSlots
import HandS.Style
import HandS.Flow
import HandS.IsInst
import HandS.Text
import KE.KDictCopyH
import PyProof.SeqIndex
import KE.KIndexOf
import HandS.DictTup
import PyProof.TupleOfSeq
import KE.KDictSum
import KE.DataFind
import KE.KDictLaws
import HandS.Strs
import HandS.Comp
import HandS.Iter
import HandS.Zip
import PyProof.Rows.TupDisplay
import HandS.Dict
import HandS.Small
import HandS.WordsExc
import HandS.RaiseMore
import HandS.CallLocal
import HandS.ExcField
import HandS.Ends
import KE.KDictPairs
import HandS.SetFor
import PyProof.EqKinds
import PyProof.NeKinds
import PySem.Challenge.RW_whyanswers_k39_sums_put_into_sums
import KE.KExcLine
set_option Elab.async false
set_option linter.all false
set_option maxRecDepth 100000
set_option maxHeartbeats 1000000
/-! Mn0: < of data that can be compared at the first place where they differ; sorting such. -/
namespace Mn
open PySem PySem.W PySem.SeqAt PyProof.Rows PySem.Calls

mutual
/-- x < y is told: of one kind, or tuples whose first places that differ are such -/
def comp : PyData → PyData → Bool
  | .bool _, .bool _ => true
  | .int _, .int _ => true
  | .str _, .str _ => true
  | .tuple xs, .tuple ys => compAll xs ys
  | _, _ => false
def compAll : List PyData → List PyData → Bool
  | x :: xs, y :: ys => if PyData.eqv x y = true then compAll xs ys else comp x y
  | [], _ => true
  | _ :: _, [] => true
end
theorem lay_cons {x : PyData} {xs : List PyData} (h : PyData.canLayAll0 (x :: xs) = true) : x.canLay0 = true ∧ PyData.canLayAll0 xs = true := by simpa [PyData.canLayAll0] using h
mutual
theorem eqv_toks : ∀ (x y : PyData), x.canLay0 = true → PyData.eqv x y = true → keyToks x = keyToks y
  | .none, y, _, h => by cases y <;> simp [PyData.eqv] at h; rfl
  | .bool a, y, _, h => by
    cases y <;> simp [PyData.eqv] at h
    · subst h; rfl
    · simp [keyToks, ← h]
  | .int a, y, _, h => by
    cases y <;> simp [PyData.eqv] at h
    · simp [keyToks, h]
    · subst h; rfl
  | .str a, y, _, h => by
    cases y <;> simp [PyData.eqv] at h
    subst h; rfl
  | .list xs, y, l, h => by
    cases y <;> simp [PyData.eqv] at h
    simp only [keyToks]
    exact eqvAll_toks xs _ (by simpa [PyData.canLay0] using l) h
  | .tuple xs, y, l, h => by
    cases y <;> simp [PyData.eqv] at h
    simp only [keyToks]
    exact eqvAll_toks xs _ (by simpa [PyData.canLay0] using l) h
  | .dict _, y, l, h => by simp [PyData.canLay0] at l
theorem eqvAll_toks : ∀ (xs ys : List PyData), PyData.canLayAll0 xs = true → PyData.eqvAll xs ys = true → keyToksAll xs = keyToksAll ys
  | [], ys, _, h => by cases ys <;> simp [PyData.eqvAll] at h; rfl
  | x :: xs, ys, l, h => by
    cases ys with
    | nil => simp [PyData.eqvAll] at h
    | cons y ys =>
      simp [PyData.eqvAll] at h
      obtain ⟨l1, l2⟩ := lay_cons l
      rw [toks_all_cons, toks_all_cons, eqv_toks x y l1 h.1, eqvAll_toks xs ys l2 h.2]
end
mutual
theorem comp_lex : ∀ (x y : PyData), x.canLay0 = true → comp x y = true → PyData.eqv x y = false → ∀ l m, lexLt itemOrd (keyToks x ++ l) (keyToks y ++ m) = lexLt itemOrd (keyToks x) (keyToks y)
  | .none, y, _, h, _ => absurd h (by simp [comp])
  | .bool a, y, _, h, e => by
    cases y with
    | bool b =>
      intro l m
      have hne : a ≠ b := fun q => by subst q; simp [PyData.eqv] at e
      simp only [keyToks, List.cons_append, List.nil_append]
      refine lex_atom (fun q => hne ?_) l m
      have q' := Sum.inl.inj q
      cases a <;> cases b <;> simp_all
    | _ => exact absurd h (by simp [comp])
  | .int a, y, _, h, e => by
    cases y with
    | int b =>
      intro l m
      have hne : a ≠ b := fun q => by subst q; simp [PyData.eqv] at e
      simp only [keyToks, List.cons_append, List.nil_append]
      exact lex_atom (fun q => hne (Sum.inl.inj q)) l m
    | _ => exact absurd h (by simp [comp])
  | .str a, y, _, h, e => by
    cases y with
    | str b =>
      intro l m
      have hne : a ≠ b := fun q => by subst q; simp [PyData.eqv] at e
      simp only [keyToks, List.cons_append, List.nil_append]
      exact lex_atom (fun q => hne (str_of_cps (Sum.inr.inj q))) l m
    | _ => exact absurd h (by simp [comp])
  | .list _, y, _, h, _ => absurd h (by simp [comp])
  | .tuple xs, y, lx, h, e => by
    cases y with
    | tuple ys =>
      intro l m
      simp only [keyToks]
      exact compAll_lex xs ys (by simpa [PyData.canLay0] using lx) (by simpa [comp] using h) (by simpa [PyData.eqv] using e) l m
    | _ => exact absurd h (by simp [comp])
  | .dict _, y, l, _, _ => by simp [PyData.canLay0] at l
theorem compAll_lex : ∀ (xs ys : List PyData), PyData.canLayAll0 xs = true → compAll xs ys = true → PyData.eqvAll xs ys = false → ∀ l m, lexLt itemOrd (keyToksAll xs ++ l) (keyToksAll ys ++ m) = lexLt itemOrd (keyToksAll xs) (keyToksAll ys)
  | [], [], _, _, e => absurd e (by simp [PyData.eqvAll])
  | [], y :: ys, _, _, e => fun l m => by
      simp only [keyToksAll, List.cons_append, List.nil_append]
      exact (lex_atom (by simp) _ _).trans (lex_atom (by simp) _ _).symm
  | x :: xs, [], _, _, e => fun l m => by
      simp only [keyToksAll, List.cons_append, List.nil_append]
      exact (lex_atom (by simp) _ _).trans (lex_atom (by simp) _ _).symm
  | x :: xs, y :: ys, lx, h, e => by
    obtain ⟨l1, l2⟩ := lay_cons lx
    rw [eqv_all_cons] at e
    rw [compAll] at h
    rw [toks_all_cons, toks_all_cons]
    intro l m
    cases hx : PyData.eqv x y with
    | true =>
      rw [hx] at h e
      simp only [if_true] at h
      rw [Bool.true_and] at e
      rw [eqv_toks x y l1 hx]
      simp only [List.cons_append, List.append_assoc]
      exact (lex_self (O := itemOrd) _ _ _).trans ((lex_pre _ _ _).trans ((compAll_lex xs ys l2 h e l m).trans ((lex_pre _ _ _).symm.trans (lex_self (O := itemOrd) _ _ _).symm)))
    | false =>
      rw [hx] at h
      simp only [Bool.false_eq_true, if_false] at h
      simp only [List.cons_append, List.append_assoc]
      exact (lex_self (O := itemOrd) _ _ _).trans ((comp_lex x y l1 h hx _ _).trans ((comp_lex x y l1 h hx _ _).symm.trans (lex_self (O := itemOrd) _ _ _).symm))
end
theorem lt_yes {x y : PyData} {xs ys : List PyData} (l : x.canLay0 = true) (e : PyData.eqv x y = true) : lexLt itemOrd (keyToksAll (x :: xs)) (keyToksAll (y :: ys)) = lexLt itemOrd (keyToksAll xs) (keyToksAll ys) := by
  rw [toks_all_cons, toks_all_cons, eqv_toks x y l e]
  exact (lex_self (O := itemOrd) _ _ _).trans (lex_pre _ _ _)
theorem lt_no {x y : PyData} {xs ys : List PyData} (l : x.canLay0 = true) (h : comp x y = true) (e : PyData.eqv x y = false) : lexLt itemOrd (keyToksAll (x :: xs)) (keyToksAll (y :: ys)) = dataLt x y := by
  rw [toks_all_cons, toks_all_cons]
  exact (lex_self (O := itemOrd) _ _ _).trans (comp_lex x y l h e _ _)
theorem first_toks : ∀ (xs ys : List PyData), PyData.canLayAll0 xs = true → compAll xs ys = true →
    firstLt (pairEq xs ys) (fun j => dataLt (xs.getD j .none) (ys.getD j .none)) (decide (xs.length < ys.length)) (List.range (min xs.length ys.length)) = lexLt itemOrd (keyToksAll xs) (keyToksAll ys)
  | [], [], _, _ => by simp [firstLt, keyToksAll, lex_irrefl]
  | [], y :: ys, _, _ => by
    rw [toks_all_cons]
    simp only [keyToksAll]
    rw [lex_diff (O := itemOrd) (by simp)]
    simp [firstLt, itemLt]
  | x :: xs, [], _, _ => by
    rw [toks_all_cons]
    simp only [keyToksAll]
    rw [lex_diff (O := itemOrd) (by simp)]
    simp [firstLt, itemLt]
  | x :: xs, y :: ys, lx, h => by
    obtain ⟨l1, l2⟩ := lay_cons lx
    rw [compAll] at h
    have em : min (x :: xs).length (y :: ys).length = min xs.length ys.length + 1 := by
      rw [List.length_cons, List.length_cons]
      omega
    have ed : decide ((x :: xs).length < (y :: ys).length) = decide (xs.length < ys.length) := by
      rw [List.length_cons, List.length_cons]
      exact decide_eq_decide.mpr (by omega)
    rw [em, ed, List.range_succ_eq_map]
    cases hx : PyData.eqv x y with
    | true =>
      rw [hx] at h
      simp only [if_true] at h
      have ih := first_toks xs ys l2 h
      rw [firstLt_yes (show pairEq (x :: xs) (y :: ys) 0 = true from hx), firstLt_map, lt_yes l1 hx, ← ih]
      rfl
    | false =>
      rw [hx] at h
      simp only [Bool.false_eq_true, if_false] at h
      rw [firstLt_no (show pairEq (x :: xs) (y :: ys) 0 = false from hx), lt_no l1 h hx]
      rfl
/-- a < b of tuples, where the first place that differs has a < (later ones need none) -/
theorem tupLtAt (l b : Addr) (items items2 : Array Value) (n n2 : Nat) (dd dd2 : Option Addr) (sl sl2 : Array (Option Value)) (e r : Nat → Bool) :
    Meets (Builtin.«tuple.__lt__» ⟨[.ref l, .ref b], []⟩)
      (fun A R s => s.heap.get? l = some { cls := .type "tuple", dict := dd, data := .seq items n, slots := sl } ∧ s.heap.get? b = some { cls := .type "tuple", dict := dd2, data := .seq items2 n2, slots := sl2 } ∧
        (∀ j (h1 : j < items.size) (h2 : j < items2.size), EqAt A.in1 s items[j] items2[j] (e j)) ∧ (∀ j (h1 : j < items.size) (h2 : j < items2.size), e j = false → (∀ i, i < j → e i = true) → RcLt A.in1 s items[j] items2[j] (r j)) ∧
        R (.ok (.ret (.bool (firstLt e r (decide (items.size < items2.size)) (List.range (min items.size items2.size)))))) s) :=
  .of_wp fun prog w A R s h => by
    obtain ⟨hp, g, d, tk, os⟩ := s; obtain ⟨hl, hb, he, hr, h⟩ := h
    have f2 := AutoSeq1.sub_tuple_tuple
    have hZ : (items.toList.zip items2.toList).length = min items.size items2.size := by simp
    wp_walk using AutoSeq1.wpAny_loadPart' hl, AutoSeq1.wpAny_loadPart' hb, wpAny_forIn_list _ (fun rest b s' => b.1 = none ∧ s' = ⟨hp, g, d, tk, os⟩ ∧ ∃ i, rest = (items.toList.zip items2.toList).drop i ∧ (∀ k, k < i → e k = true) ∧
      R (.ok (.ret (.bool (firstLt e r (decide (items.size < items2.size)) ((List.range (min items.size items2.size)).drop i))))) ⟨hp, g, d, tk, os⟩) _
    case turn =>
      rintro ⟨y, x⟩ rest b s' ⟨hb', rfl, i, hz, hpre, hR⟩
      have hlt : i < (items.toList.zip items2.toList).length := by
        rcases Nat.lt_or_ge i (items.toList.zip items2.toList).length with h' | h'
        · exact h'
        · rw [List.drop_of_length_le h'] at hz; cases hz
      have hm : i < min items.size items2.size := hZ ▸ hlt
      have h1 : i < items.size := Nat.lt_of_lt_of_le hm (Nat.min_le_left _ _)
      have h2 : i < items2.size := Nat.lt_of_lt_of_le hm (Nat.min_le_right _ _)
      rw [List.drop_eq_getElem_cons hlt] at hz
      injection hz with hyx hrest
      have hy : y = items[i] := by have := congrArg Prod.fst hyx; simpa using this
      have hx : x = items2[i] := by have := congrArg Prod.snd hyx; simpa using this
      subst hy hx
      have hd : (List.range (min items.size items2.size)).drop i = i :: (List.range (min items.size items2.size)).drop (i + 1) := by simp [List.drop_eq_getElem_cons, hm]
      rw [hd] at hR
      refine wpAny_bind (he i h1 h2 prog w _ _ ?_)
      cases hy : e i with
      | true =>
        rw [firstLt_yes hy] at hR
        wp_walk
        refine ⟨rfl, rfl, i + 1, hrest, fun k hk => ?_, hR⟩
        rcases Nat.lt_succ_iff_lt_or_eq.mp hk with q | rfl
        · exact hpre k q
        · exact hy
      | false =>
        rw [firstLt_no hy] at hR
        refine wpAny_bind (wpAny_rule ?_)
        refine wpAny_bind (hr i h1 h2 hy hpre prog w _ _ ?_)
        wp_walk
        exact ⟨_, rfl, hR⟩
    case fin =>
      rintro ⟨b1, b2⟩ s' ⟨hb', rfl, i, hz, hpre, hR⟩
      simp only at hb'
      subst hb'
      have hge : min items.size items2.size ≤ i := by
        rcases Nat.lt_or_ge i (items.toList.zip items2.toList).length with h' | h'
        · rw [List.drop_eq_getElem_cons h'] at hz; cases hz
        · exact hZ ▸ h'
      rw [List.drop_of_length_le (by simpa using hge)] at hR
      wp_walk
      exact ⟨_, rfl, by simpa [Builtin.Tuple.tupleCompareSizes, firstLt] using hR⟩
    case h =>
      exact ⟨rfl, rfl, 0, rfl, fun _ h => absurd h (Nat.not_lt_zero _), by simpa using h⟩
theorem tupLt {A : Around} {s : Shared} {l b : Addr} {items items2 : Array Value} {e r : Nat → Bool} (hl : s.heap.IsTuple l items) (hb : s.heap.IsTuple b items2) (hu : A.units < cLine)
    (he : ∀ j (h1 : j < items.size) (h2 : j < items2.size), EqAt A.in1 s items[j] items2[j] (e j)) (hr : ∀ j (h1 : j < items.size) (h2 : j < items2.size), e j = false → (∀ i, i < j → e i = true) → RcLt A.in1 s items[j] items2[j] (r j)) :
    RcLt A s (.ref l) (.ref b) (firstLt e r (decide (items.size < items2.size)) (List.range (min items.size items2.size))) := fun prog w E Q h => by
  obtain ⟨⟨cls, dd, data, sl⟩, ho, hc, n, hd⟩ := id hl
  obtain ⟨⟨cls2, dd2, data2, sl2⟩, ho2, hc2, n2, hd2⟩ := id hb
  simp only at hc hd hc2 hd2
  subst hc hd hc2 hd2
  exact richCompare_meets_room (op := .Lt) ⟨_, ho, rfl⟩ ⟨_, ho2, rfl⟩ PySem.F.slot_tuple_lt PySem.F.entry_tuple_lt (PySem.F.args_tuple_lt_2 _ _) (tupLtAt l b items items2 n n2 dd dd2 sl sl2 e r)
    ⟨ho, ho2, he, hr, show Value.bool (firstLt e r (decide (items.size < items2.size)) (List.range (min items.size items2.size))) ≠ Value.notImplemented ∧ Q (.bool (firstLt e r (decide (items.size < items2.size)) (List.range (min items.size items2.size)))) s from ⟨(fun x => nomatch x), h⟩⟩ hu
theorem call_tupLt {A : Around} {s : Shared} {prog : Program} {w : World} {E : Value → Shared → Prop} {Q : Value → Shared → Prop} {l b : Addr} {items items2 : Array Value} {e r : Nat → Bool} (hl : s.heap.IsTuple l items) (hb : s.heap.IsTuple b items2)
    (he : ∀ j (h1 : j < items.size) (h2 : j < items2.size), EqAt A.in1 s items[j] items2[j] (e j)) (hr : ∀ j (h1 : j < items.size) (h2 : j < items2.size), e j = false → (∀ i, i < j → e i = true) → RcLt A.in1 s items[j] items2[j] (r j))
    (h : Q (.bool (firstLt e r (decide (items.size < items2.size)) (List.range (min items.size items2.size)))) s) : wpAny (model prog w) A (call (.builtin "tuple.__lt__") [.ref l, .ref b]) Q E s := by
  obtain ⟨⟨cls, dd, data, sl⟩, ho, hc, n, hd⟩ := id hl
  obtain ⟨⟨cls2, dd2, data2, sl2⟩, ho2, hc2, n2, hd2⟩ := id hb
  simp only at hc hd hc2 hd2
  subst hc hd hc2 hd2
  exact call_meets PySem.F.slot_tuple_lt ⟨_, ho, rfl⟩ PySem.F.entry_tuple_lt (PySem.F.args_tuple_lt_2 _ _) (tupLtAt l b items items2 n n2 dd dd2 sl sl2 e r) ⟨ho, ho2, he, hr, h⟩
mutual
theorem comp_run : ∀ (da db : PyData) (A : Around) (s : Shared) (a b : Value) (as bs : List Addr), Reads s.heap a da as → Reads s.heap b db bs → da.canLay0 = true → db.canLay0 = true → comp da db = true → A.units + min da.depth db.depth < cLine → RcLt A s a b (dataLt da db)
  | .none, _, _, _, _, _, _, _, _, _, _, _, h, _ => absurd h (by simp [comp])
  | .bool x, db, A, s, a, b, as, bs, ra, rb, _, _, h, _ => by
    cases db with
    | bool y =>
      cases ra
      cases rb
      intro prog w E Q hq
      rw [dataLt_bool] at hq
      exact lt_bool hq
    | _ => exact absurd h (by simp [comp])
  | .int x, db, A, s, a, b, as, bs, ra, rb, _, _, h, _ => by
    cases db with
    | int y =>
      cases ra
      cases rb
      intro prog w E Q hq
      rw [dataLt_int] at hq
      exact P.lt_int hq
    | _ => exact absurd h (by simp [comp])
  | .str x, db, A, s, a, b, as, bs, ra, rb, _, _, h, _ => by
    cases db with
    | str y =>
      cases ra
      cases rb
      intro prog w E Q hq
      rw [dataLt_str] at hq
      exact P.lt_str hq
    | _ => exact absurd h (by simp [comp])
  | .list _, _, _, _, _, _, _, _, _, _, _, _, h, _ => absurd h (by simp [comp])
  | .tuple xs, db, A, s, a, b, as, bs, ra, rb, l, l', h, hu => by
    cases db with
    | tuple ys =>
      have hal : compAll xs ys = true := by simpa [comp] using h
      have lx : PyData.canLayAll0 xs = true := by simpa [PyData.canLay0] using l
      have ly : PyData.canLayAll0 ys = true := by simpa [PyData.canLay0] using l'
      cases ra with
      | @tuple l o vs n _ as₁ h1 h2 h3 h4 =>
        cases rb with
        | @tuple l' o' vs' n' _ bs₁ k1 k2 k3 k4 =>
          have n1 : vs.size = xs.length := by simpa using ReadsAll.length _ _ _ h4
          have n2 : vs'.size = ys.length := by simpa using ReadsAll.length _ _ _ k4
          rw [dataLt_tuple, ← first_toks xs ys lx hal, ← n1, ← n2]
          refine tupLt ⟨_, h1, h2, _, h3⟩ ⟨_, k1, k2, _, k3⟩ (room_here hu) (fun j j1 j2 => ?_) fun j j1 j2 hj hp => ?_
          · have := eqAt_readsAll xs ys A.in1 s vs.toList vs'.toList _ _ h4 k4 lx ly (room_in hu) j (by simpa using j1) (by simpa using j2)
            simpa using this
          · have := compAll_run xs ys A.in1 s vs.toList vs'.toList _ _ h4 k4 lx ly hal (room_in hu) j (by simpa using j1) (by simpa using j2) hj hp
            simpa using this
    | _ => exact absurd h (by simp [comp])
  | .dict _, _, _, _, _, _, _, _, _, _, _, _, h, _ => absurd h (by simp [comp])
theorem compAll_run : ∀ (xs ys : List PyData) (A : Around) (s : Shared) (vs ws : List Value) (as bs : List Addr), ReadsAll s.heap vs xs as → ReadsAll s.heap ws ys bs → PyData.canLayAll0 xs = true → PyData.canLayAll0 ys = true → compAll xs ys = true →
    A.units + min (PyData.depthAll xs) (PyData.depthAll ys) < cLine → ∀ j (h1 : j < vs.length) (h2 : j < ws.length), pairEq xs ys j = false → (∀ i, i < j → pairEq xs ys i = true) → RcLt A s vs[j] ws[j] (dataLt (xs.getD j .none) (ys.getD j .none))
  | [], _, _, _, _, _, _, _, ra, _, _, _, _, _, j, h1, _, _, _ => by cases ra; exact absurd h1 (Nat.not_lt_zero _)
  | _ :: _, [], _, _, _, _, _, _, _, rb, _, _, _, _, j, _, h2, _, _ => by cases rb; exact absurd h2 (Nat.not_lt_zero _)
  | x :: xs, y :: ys, A, s, _, _, _, _, ra, rb, lx, ly, h, hu, j, h1, h2, hj, hp => by
    obtain ⟨l1, l2⟩ := lay_cons lx
    obtain ⟨m1, m2⟩ := lay_cons ly
    rw [compAll] at h
    cases ra with
    | cons r rs =>
      cases rb with
      | cons r' rs' =>
        cases j with
        | zero =>
          rw [show PyData.eqv x y = false from hj] at h
          simp only [Bool.false_eq_true, if_false] at h
          exact comp_run x y A s _ _ _ _ r r' l1 m1 h (room_head hu)
        | succ j =>
          rw [show PyData.eqv x y = true from hp 0 (Nat.succ_pos _)] at h
          simp only [if_true] at h
          exact compAll_run xs ys A s _ _ _ _ rs rs' l2 m2 h (room_tail hu) j (Nat.lt_of_succ_lt_succ h1) (Nat.lt_of_succ_lt_succ h2) hj fun i hi => hp (i + 1) (Nat.succ_lt_succ hi)
end

/-! ### as sorting compares -/
section
variable {prog : Program} {w : World} {A : Around} {E : Value → Shared → Prop} {s : Shared}
theorem comp_one {f : Bool} {da db : PyData} {a b : Value} {as bs : List Addr} {Q : Bool → Shared → Prop} (ra : Reads s.heap a da as) (rb : Reads s.heap b db bs) (la : da.canLay0 = true) (lb : db.canLay0 = true) (h : comp da db = true)
    (hu : A.units + min da.depth db.depth < cLine) (hq : Q (dataLt da db) s) : wpAny (model prog w) A (oneLt' f a b) Q E s := by
  cases f with
  | false =>
    rw [oneLt'_eq]
    simp only [Bool.false_eq_true, if_false]
    exact wpAny_bind (comp_run da db A s a b as bs ra rb la lb h hu prog w E _ (wpAny_truthy_bool hq))
  | true =>
    cases da with
    | none => exact absurd h (by simp [comp])
    | bool x =>
      cases db with
      | bool y =>
        cases ra
        cases rb
        rw [dataLt_bool] at hq
        exact oneLt_bool hq
      | _ => exact absurd h (by simp [comp])
    | int x =>
      cases db with
      | int y =>
        cases ra
        cases rb
        rw [dataLt_int] at hq
        exact oneLt_int hq
      | _ => exact absurd h (by simp [comp])
    | str x =>
      cases db with
      | str y =>
        cases ra
        cases rb
        rw [dataLt_str] at hq
        exact oneLt_str hq
      | _ => exact absurd h (by simp [comp])
    | list xs => exact absurd h (by simp [comp])
    | tuple xs =>
      cases db with
      | tuple ys =>
        have hal : compAll xs ys = true := by simpa [comp] using h
        have lx : PyData.canLayAll0 xs = true := by simpa [PyData.canLay0] using la
        have ly : PyData.canLayAll0 ys = true := by simpa [PyData.canLay0] using lb
        cases ra with
        | @tuple l o vs n _ as₁ h1 h2 h3 h4 =>
          cases rb with
          | @tuple l' o' vs' n' _ bs₁ k1 k2 k3 k4 =>
            have n1 : vs.size = xs.length := by simpa using ReadsAll.length _ _ _ h4
            have n2 : vs'.size = ys.length := by simpa using ReadsAll.length _ _ _ k4
            rw [dataLt_tuple, ← first_toks xs ys lx hal, ← n1, ← n2] at hq
            rw [oneLt'_eq]
            simp only [if_true]
            refine wpAny_bind (wpAny_cRoomFor (room_here hu) ?_)
            refine wpAny_bind (wpAny_callSpecialIfBound?_slot (T := "tuple") ⟨_, h1, h2⟩ PySem.F.slot_tuple_lt (call_tupLt (e := pairEq xs ys) (r := fun j => dataLt (xs.getD j .none) (ys.getD j .none)) ⟨_, h1, h2, _, h3⟩ ⟨_, k1, k2, _, k3⟩ (fun j j1 j2 => ?_) (fun j j1 j2 hj hp => ?_) ?_))
            · have := eqAt_readsAll xs ys A.in1 s vs.toList vs'.toList _ _ h4 k4 lx ly (room_in hu) j (by simpa using j1) (by simpa using j2)
              simpa using this
            · have := compAll_run xs ys A.in1 s vs.toList vs'.toList _ _ h4 k4 lx ly hal (room_in hu) j (by simpa using j1) (by simpa using j2) hj hp
              simpa using this
            · exact wpAny_truthy_bool hq
      | _ => exact absurd h (by simp [comp])
    | dict _ => exact absurd h (by simp [comp])
theorem lex_run {b fin : Bool} {Q : Bool → Shared → Prop} : ∀ (xs ys : List PyData) (i : Nat) (vs ws : List Value) (as bs : List Addr), ReadsAll s.heap vs xs as → ReadsAll s.heap ws ys bs → PyData.canLayAll0 xs = true → PyData.canLayAll0 ys = true → compAll xs ys = true →
    A.units + min (PyData.depthAll xs) (PyData.depthAll ys) < cLine → fin = decide (xs.length < ys.length) → Q (lexLt itemOrd (keyToksAll xs) (keyToksAll ys)) s → KatLex prog w A b fin Q (vs.zip ws) i s
  | [], [], i, _, _, _, _, ra, rb, _, _, _, _, hf, hq => by
    cases ra
    cases rb
    have e : fin = false := by rw [hf]; rfl
    subst e
    rw [lex_irrefl] at hq
    exact kat_nil hq
  | [], y :: ys, i, _, _, _, _, ra, rb, _, _, _, _, hf, hq => by
    cases ra
    have e : fin = true := by rw [hf]; exact decide_eq_true (Nat.succ_pos _)
    subst e
    rw [toks_all_cons] at hq
    simp only [keyToksAll] at hq
    rw [lex_diff (O := itemOrd) (by simp)] at hq
    rw [List.zip_nil_left]
    exact kat_nil (by simpa [itemLt] using hq)
  | x :: xs, [], i, _, _, _, _, ra, rb, _, _, _, _, hf, hq => by
    cases rb
    have e : fin = false := by rw [hf]; exact decide_eq_false (Nat.not_lt_zero _)
    subst e
    rw [toks_all_cons] at hq
    simp only [keyToksAll] at hq
    rw [lex_diff (O := itemOrd) (by simp)] at hq
    rw [List.zip_nil_right]
    exact kat_nil (by simpa [itemLt] using hq)
  | x :: xs, y :: ys, i, _, _, _, _, ra, rb, lx, ly, h, hu, hf, hq => by
    obtain ⟨l1, l2⟩ := lay_cons lx
    obtain ⟨m1, m2⟩ := lay_cons ly
    rw [compAll] at h
    have hf' : fin = decide (xs.length < ys.length) := by
      rw [hf]
      simp only [List.length_cons, Nat.add_lt_add_iff_right]
    cases ra with
    | cons r rs =>
      cases rb with
      | cons r' rs' =>
        rw [List.zip_cons_cons]
        refine kat_cons (eqAt_reads x y A s _ _ _ _ r r' l1 m1 (room_head hu) prog w _ _ ?_)
        cases hx : PyData.eqv x y with
        | true =>
          rw [hx] at h
          simp only [if_true] at h
          rw [lt_yes l1 hx] at hq
          exact kat_yes (lex_run xs ys (i + 1) _ _ _ _ rs rs' l2 m2 h (room_tail hu) hf' hq)
        | false =>
          rw [hx] at h
          simp only [Bool.false_eq_true, if_false] at h
          rw [lt_no l1 h hx] at hq
          exact kat_no (comp_one r r' l1 m1 h (room_head hu) hq)
end
/-! ### what sorting asks first -/
section
variable {prog : Program} {w : World} {A : Around} {E : Value → Shared → Prop} {s : Shared}
/-- every two are told -/
def AllComp (ds : List PyData) : Prop := ∀ d, d ∈ ds → ∀ d', d' ∈ ds → comp d d' = true
noncomputable def kindC (h : Heap) (ds : List PyData) : PyProof.Rows.KeyKind where
  toKeyOrd := listOrd itemOrd
  keyOf v := open Classical in if q : ∃ d, d ∈ ds ∧ ∃ as, Reads h v d as then some (keyToks q.choose) else none
  dflt := ([] : List (Int ⊕ List Nat))
theorem kindC_some {h : Heap} {ds : List PyData} {v : Value} {d : PyData} {as : List Addr} (l : d.canLay0 = true) (hd : d ∈ ds) (r : Reads h v d as) : (kindC h ds).keyOf v = some (keyToks d) := by
  have q : ∃ d, d ∈ ds ∧ ∃ as, Reads h v d as := ⟨d, hd, as, r⟩
  have e : (kindC h ds).keyOf v = some (keyToks q.choose) := by
    show (open Classical in if q : ∃ d, d ∈ ds ∧ ∃ as, Reads h v d as then some (keyToks q.choose) else none) = _
    rw [dif_pos q]
  obtain ⟨h1, as', h2⟩ := q.choose_spec
  rw [e, ← SeqAt.Reads.unique _ _ _ _ _ l r h2]
theorem kindC_inv {h : Heap} {ds : List PyData} {v : Value} {k : List (Int ⊕ List Nat)} (e : (kindC h ds).keyOf v = some k) : ∃ d as, d ∈ ds ∧ Reads h v d as ∧ k = keyToks d := by
  by_cases q : ∃ d, d ∈ ds ∧ ∃ as, Reads h v d as
  · have e' : (kindC h ds).keyOf v = some (keyToks q.choose) := by
      show (open Classical in if q : ∃ d, d ∈ ds ∧ ∃ as, Reads h v d as then some (keyToks q.choose) else none) = _
      rw [dif_pos q]
    obtain ⟨h1, as', h2⟩ := q.choose_spec
    rw [e'] at e
    exact ⟨_, as', h1, h2, (Option.some.inj e).symm⟩
  · have e' : (kindC h ds).keyOf v = none := by
      show (open Classical in if q : ∃ d, d ∈ ds ∧ ∃ as, Reads h v d as then some (keyToks q.choose) else none) = _
      rw [dif_neg q]
      rfl
    rw [e'] at e
    exact absurd e (by simp)
/-- the first item of a tuple -/
def firstP : PyData → Option PyData
  | .tuple (x :: _) => some x
  | _ => none
theorem first_run {M : Model} {v : Value} {d : PyData} {as : List Addr} (r : Reads s.heap v d as) : ∃ f : Option Value, (∀ (E : Value → Shared → Prop) (Q : Option Value → Shared → Prop), Q f s → wpAny M A (firstOfTuple' v) Q E s) ∧
    match firstP d with
    | none => f = none
    | some x => ∃ u bs, f = some u ∧ Reads s.heap u x bs := by
  have other : ∀ {T : Value}, Looks M s.heap (typeOf v) T → (T != Value.type "tuple") = true → ∀ (E : Value → Shared → Prop) (Q : Option Value → Shared → Prop), Q none s → wpAny M A (firstOfTuple' v) Q E s := by
    intro T hT hn E Q hq
    rw [kas_first_eq]
    refine wpAny_bind (hT.here ?_)
    rw [if_pos hn]
    exact wpAny_pure hq
  have lk := looks_reads (M := M) r
  cases r with
  | none => exact ⟨none, other lk (by simp [dataType]), rfl⟩
  | bool _ => exact ⟨none, other lk (by simp [dataType]), rfl⟩
  | int _ _ => exact ⟨none, other lk (by simp [dataType]), rfl⟩
  | str _ _ => exact ⟨none, other lk (by simp [dataType]), rfl⟩
  | list h1 h2 h3 h4 => exact ⟨none, other lk (by simp [dataType]), rfl⟩
  | dict h1 h2 h3 h4 h5 => exact ⟨none, other lk (by simp [dataType]), rfl⟩
  | @tuple a o vs n ds as h1 h2 h3 h4 =>
    refine ⟨vs[0]?, fun E Q hq => ?_, ?_⟩
    · rw [kas_first_eq]
      refine wpAny_bind (lk.here ?_)
      rw [if_neg (by simp [dataType])]
      exact wpAny_bind (listItems_at h1 h3 (wpAny_pure hq))
    · cases ds with
      | nil =>
        have e : vs.toList = [] := by
          generalize vs.toList = l at h4
          cases h4; rfl
        have e2 : vs = #[] := by simpa using e
        subst e2
        rfl
      | cons x xs =>
        generalize e : vs.toList = l at h4
        cases h4 with
        | @cons u ul _ _ as1 as2 r1 r2 => exact ⟨u, as1, by rw [← Array.getElem?_toList, e]; rfl, r1⟩
theorem mapM_run {α β : Type} {M : Model} {f : α → Sem β} : ∀ (l : List α) (rs : List β) {Q : List β → Shared → Prop}, EachIs (fun v r => ∀ (E : Value → Shared → Prop) (Q' : β → Shared → Prop), Q' r s → wpAny M A (f v) Q' E s) l rs → Q rs s → wpAny M A (l.mapM f) Q E s
  | [], _, _, .nil, h => by rw [List.mapM_nil]; exact wpAny_pure h
  | x :: l, _, Q, .cons (b := r) hx t, h => by
    rename_i rs
    rw [List.mapM_cons]
    exact wpAny_bind (hx _ _ (wpAny_bind (mapM_run l rs (Q := fun bs s' => wpAny M A (pure (r :: bs)) Q E s') t (wpAny_pure h))))
theorem each_firsts {M : Model} : ∀ {vs : List Value} {ds : List PyData}, EachIs (fun v d => ∃ as, Reads s.heap v d as) vs ds → ∃ fs : List (Option Value), EachIs (fun v r => ∀ (E : Value → Shared → Prop) (Q' : Option Value → Shared → Prop), Q' r s → wpAny M A (firstOfTuple' v) Q' E s) vs fs ∧
    EachIs (fun f d => match firstP d with
      | none => f = none
      | some x => ∃ u bs, f = some u ∧ Reads s.heap u x bs) fs ds
  | _, _, .nil => ⟨[], .nil, .nil⟩
  | _, _, .cons ⟨as, r⟩ t => by
    obtain ⟨f, h1, h2⟩ := first_run (M := M) (A := A) r
    obtain ⟨fs, g1, g2⟩ := each_firsts (M := M) t
    exact ⟨f :: fs, .cons h1 g1, .cons h2 g2⟩
/-- what the first items tell: all tuples that have one, of one kind; else the first one; else all of one kind -/
def allFirst (ds : List PyData) : Bool := ds.all fun d => (firstP d).isSome
def oneTy (ts : Array Value) : Option Value := match ts[0]? with
  | some t => if ts.all (· == t) then some t else none
  | none => none
theorem oneTy_run {M : Model} {vs : List Value} {ds : List PyData} (e : EachIs (fun v d => ∃ as, Reads s.heap v d as) vs ds) {Q : Option Value → Shared → Prop} (h : Q (oneTy (ds.map dataType).toArray) s) : wpAny M A (oneTypeOnly' vs.toArray) Q E s := by
  rw [oneTypeOnly'_eq, List.mapM_toArray, map_eq_pure_bind]
  have e2 : EachIs (fun v r => ∀ (E : Value → Shared → Prop) (Q' : Value → Shared → Prop), Q' r s → wpAny M A (typeOf v) Q' E s) vs (ds.map dataType) := by
    clear h
    induction e with
    | nil => exact .nil
    | cons h t ih =>
      obtain ⟨as, r⟩ := h
      exact .cons (fun E Q hq => (looks_reads r).here hq) ih
  refine wpAny_bind (wpAny_bind (mapM_run _ _ e2 (wpAny_pure ?_)))
  unfold oneTy at h
  cases q : (ds.map dataType).toArray[0]? with
  | none => rw [q] at h; simp only at h ⊢; exact wpAny_pure h
  | some t => rw [q] at h; simp only at h ⊢; exact wpAny_pure h
theorem firsts_all : ∀ {fs : List (Option Value)} {ds : List PyData}, EachIs (fun f d => match firstP d with
      | none => f = none
      | some x => ∃ u bs, f = some u ∧ Reads s.heap u x bs) fs ds → fs.toArray.all (·.isSome) = allFirst ds
  | _, _, .nil => by simp [allFirst]
  | f :: fs, d :: ds, .cons h t => by
    have ih := firsts_all t
    simp only [List.all_toArray, allFirst, List.all_cons] at ih ⊢
    rw [ih]
    congr 1
    cases q : firstP d with
    | none => rw [q] at h; simp only at h; rw [h]; rfl
    | some x => rw [q] at h; simp only at h; obtain ⟨u, bs, rfl, _⟩ := h; rfl
theorem firsts_map : ∀ {fs : List (Option Value)} {ds : List PyData}, EachIs (fun f d => match firstP d with
      | none => f = none
      | some x => ∃ u bs, f = some u ∧ Reads s.heap u x bs) fs ds → allFirst ds = true → ∃ us, fs.filterMap id = us ∧ EachIs (fun v d => ∃ as, Reads s.heap v d as) us (ds.filterMap firstP)
  | _, _, .nil, _ => ⟨[], rfl, .nil⟩
  | f :: fs, d :: ds, .cons h t, ha => by
    simp only [allFirst, List.all_cons, Bool.and_eq_true] at ha
    obtain ⟨us, e1, e2⟩ := firsts_map t (show allFirst ds = true from ha.2)
    cases q : firstP d with
    | none => rw [q] at ha; simp at ha
    | some x =>
      rw [q] at h; simp only at h
      obtain ⟨u, bs, rfl, r⟩ := h
      refine ⟨u :: us, by simp [e1], ?_⟩
      rw [List.filterMap_cons, q]
      exact .cons ⟨bs, r⟩ e2
/-- the values can be sorted -/
theorem sortsC {vs : List Value} {ds : List PyData} (e : EachIs (fun v d => ∃ as, Reads s.heap v d as) vs ds) (hal : AllComp ds) (hl : ∀ d, d ∈ ds → d.canLay0 = true) (hu : ∀ d, d ∈ ds → A.units + d.depth < cLine) : SortsAt prog w A s (kindC s.heap ds) vs := by
  have room : ∀ {d d' : PyData}, d ∈ ds → A.units + min d.depth d'.depth < cLine := fun {d d'} hd => Nat.lt_of_le_of_lt (Nat.add_le_add_left (Nat.min_le_left _ _) _) (hu d hd)
  have one : ∀ (f : Bool) (E : Value → Shared → Prop) (x y : Value) (a b : List (Int ⊕ List Nat)) {Q : Bool → Shared → Prop}, (kindC s.heap ds).keyOf x = some a → (kindC s.heap ds).keyOf y = some b → Q (lexLt itemOrd a b) s → wpAny (model prog w) A (oneLt' f x y) Q E s := by
    intro f E x y a b Q ha hb hq
    obtain ⟨d, as, hd, ra, rfl⟩ := kindC_inv ha
    obtain ⟨d', as', hd', rb, rfl⟩ := kindC_inv hb
    exact comp_one ra rb (hl d hd) (hl d' hd') (hal d hd d' hd') (room hd) hq
  have gen : PyProof.Rows.H.LtAt prog w A s (kindC s.heap ds) general' := fun E x y a b Q ha hb hq => one false E x y a b ha hb hq
  have onet : PyProof.Rows.H.LtAt prog w A s (kindC s.heap ds) oneType' := fun E x y a b Q ha hb hq => by
    rw [keyLt'_oneType]
    exact one true E x y a b ha hb hq
  refine ⟨fun v hv => ?_, ?_⟩
  · obtain ⟨d, hd, as, r⟩ := e.left v hv
    exact ⟨_, kindC_some (hl d hd) hd r⟩
  · obtain ⟨fs, f1, f2⟩ := each_firsts (M := model prog w) (A := A) e
    have hall := firsts_all f2
    cases ca : allFirst ds with
    | true =>
      obtain ⟨us, u1, u2⟩ := firsts_map f2 ca
      refine ⟨tuples' ((oneTy ((ds.filterMap firstP).map dataType).toArray).any (· != .type "tuple")), ?_, fun _ E Q hq => ?_⟩
      · intro E x y a b Q ha hb hq
        obtain ⟨d, as, hd, ra, rfl⟩ := kindC_inv ha
        obtain ⟨d', as', hd', rb, rfl⟩ := kindC_inv hb
        have hdd := hal d hd d' hd'
        have hroom := room (d' := d') hd
        have hld := hl d hd
        have hld' := hl d' hd'
        have t1 : (firstP d).isSome = true := List.all_eq_true.mp ca d hd
        have t2 : (firstP d').isSome = true := List.all_eq_true.mp ca d' hd'
        obtain ⟨xs, rfl⟩ : ∃ xs, d = .tuple xs := by cases d <;> simp [firstP] at t1; exact ⟨_, rfl⟩
        obtain ⟨ys, rfl⟩ : ∃ xs, d' = .tuple xs := by cases d' <;> simp [firstP] at t2; exact ⟨_, rfl⟩
        have hq' : Q (dataLt (.tuple xs) (.tuple ys)) s := hq
        rw [dataLt_tuple] at hq'
        cases ra with
        | @tuple l o vs n _ _ h1 h2 h3 h4 =>
          cases rb with
          | @tuple l' o' vs' n' _ _ k1 k2 k3 k4 =>
            have n1 : vs.size = xs.length := by simpa using SeqAt.ReadsAll.length _ _ _ h4
            have n2 : vs'.size = ys.length := by simpa using SeqAt.ReadsAll.length _ _ _ k4
            exact kat_lt h1 h3 k1 k3 (lex_run xs ys 0 _ _ _ _ h4 k4 (by simpa [PyData.canLay0] using hld) (by simpa [PyData.canLay0] using hld') (by simpa [comp] using hdd) (by have q := SeqAt.room_in hroom; omega) (by rw [n1, n2]) hq')
      · rw [kat_kind_eq, List.mapM_toArray, map_eq_pure_bind]
        refine wpAny_bind (wpAny_bind (mapM_run _ _ f1 (wpAny_pure ?_)))
        rw [if_pos (by rw [hall]; exact ca)]
        refine wpAny_bind (wpAny_rule ?_)
        have hfm : fs.toArray.filterMap id = us.toArray := by simp [u1]
        rw [hfm]
        exact wpAny_bind (oneTy_run u2 (wpAny_pure hq))
    | false =>
      by_cases c0 : (fs.toArray[0]?.bind id).isSome = true
      · refine ⟨general', gen, fun _ E Q hq => ?_⟩
        rw [kat_kind_eq, List.mapM_toArray, map_eq_pure_bind]
        refine wpAny_bind (wpAny_bind (mapM_run _ _ f1 (wpAny_pure ?_)))
        rw [if_neg (by rw [hall, ca]; simp), if_pos c0]
        exact wpAny_pure hq
      · refine ⟨if (oneTy (ds.map dataType).toArray).isSome = true then oneType' else general', ?_, fun _ E Q hq => ?_⟩
        · split
          · exact onet
          · exact gen
        · rw [kat_kind_eq, List.mapM_toArray, map_eq_pure_bind]
          refine wpAny_bind (wpAny_bind (mapM_run _ _ f1 (wpAny_pure ?_)))
          rw [if_neg (by rw [hall, ca]; simp), if_neg c0]
          exact wpAny_bind (oneTy_run e (wpAny_pure hq))
/-- xs.sort(): the items are data that can be compared -/
theorem sortC {β : Type} {vs : List Value} {bs : List β} {enc : β → PyData} {R : Value → β → Prop} {a : Addr} {n : Nat} {Q : Value → Shared → Prop} (ho : s.heap.get? a = some (seqObj "list" vs.toArray n)) (e : EachIs R vs bs) (er : EachIs (fun v b => ∃ as, Reads (sortingHeap s.heap a vs) v (enc b) as) vs bs)
    (hal : AllComp (bs.map enc)) (hl : ∀ b, b ∈ bs → (enc b).canLay0 = true) (hL : bs.length ≤ sizeLine)
    (hu : ∀ b, b ∈ bs → A.units + 1 + (enc b).depth < cLine) (h : ∀ out, out.length = bs.length → EachIs R out (bs.mergeSort (dataLe false enc)) → Q .none { s with heap := sortedHeap s.heap a vs (List.toArray out) }) :
    wpAny (model prog w) A (call (.builtin "list.sort") [.ref a]) Q E s := by
  have hl' : ∀ d, d ∈ bs.map enc → d.canLay0 = true := by
    intro d hd
    obtain ⟨b, hb, rfl⟩ := List.mem_map.mp hd
    exact hl b hb
  have em := each_map (R := fun v d => ∃ as, Reads (sortingHeap s.heap a vs) v d as) enc er
  refine wpAny_call_entry PyProof.Rows.slot_list_sort ⟨_, ho, rfl⟩ PyProof.Rows.entry_list_sort (list_sort_vals (κ := kindC (sortingHeap s.heap a vs) (bs.map enc)) ho (sortsC (s := { s with heap := sortingHeap s.heap a vs }) em hal hl' (bound_map hu)) (by rw [e.length]; exact hL) ⟨.none, rfl, ?_⟩) (PyProof.Rows.args_list_sort _)
  refine h _ (by rw [sortVals_length false rfl]; exact e.length) ?_
  exact sortVals_each (κ := kindC (sortingHeap s.heap a vs) (bs.map enc)) (fun b => keyToks (enc b)) e (each_of_map enc ((each_mem em).mono fun v d q => by
    obtain ⟨⟨as, r⟩, hd⟩ := q
    exact kindC_some (hl' d hd) hd r))
end
end Mn
set_option Elab.async false
set_option linter.all false
set_option maxRecDepth 100000
/-! Mn1: plain data, a store, denotations. -/
namespace Mn
open PySem

/-- plain data; seq: a list that nobody writes; loc: a place of the store; fn: a def of the text, by its number -/
inductive D where
  | non | bl (b : Bool) | int (i : Int) | str (s : Str) | tup (xs : List D) | seq (xs : List D) | loc (l : Nat) | fn (n : Nat)
mutual
def D.dec : (a b : D) → Decidable (a = b)
  | .non, .non => .isTrue rfl
  | .bl a, .bl b => decidable_of_iff (a = b) ⟨fun h => h ▸ rfl, fun h => by injection h⟩
  | .int a, .int b => decidable_of_iff (a = b) ⟨fun h => h ▸ rfl, fun h => by injection h⟩
  | .str a, .str b => decidable_of_iff (a = b) ⟨fun h => h ▸ rfl, fun h => by injection h⟩
  | .tup a, .tup b => match D.decs a b with
    | .isTrue h => .isTrue (h ▸ rfl)
    | .isFalse h => .isFalse fun q => h (by injection q)
  | .seq a, .seq b => match D.decs a b with
    | .isTrue h => .isTrue (h ▸ rfl)
    | .isFalse h => .isFalse fun q => h (by injection q)
  | .loc a, .loc b => decidable_of_iff (a = b) ⟨fun h => h ▸ rfl, fun h => by injection h⟩
  | .fn a, .fn b => decidable_of_iff (a = b) ⟨fun h => h ▸ rfl, fun h => by injection h⟩
  | .non, .bl _ | .non, .int _ | .non, .str _ | .non, .tup _ | .non, .seq _ | .non, .loc _ | .non, .fn _ => .isFalse fun h => by cases h
  | .bl _, .non | .bl _, .int _ | .bl _, .str _ | .bl _, .tup _ | .bl _, .seq _ | .bl _, .loc _ | .bl _, .fn _ => .isFalse fun h => by cases h
  | .int _, .non | .int _, .bl _ | .int _, .str _ | .int _, .tup _ | .int _, .seq _ | .int _, .loc _ | .int _, .fn _ => .isFalse fun h => by cases h
  | .str _, .non | .str _, .bl _ | .str _, .int _ | .str _, .tup _ | .str _, .seq _ | .str _, .loc _ | .str _, .fn _ => .isFalse fun h => by cases h
  | .tup _, .non | .tup _, .bl _ | .tup _, .int _ | .tup _, .str _ | .tup _, .seq _ | .tup _, .loc _ | .tup _, .fn _ => .isFalse fun h => by cases h
  | .seq _, .non | .seq _, .bl _ | .seq _, .int _ | .seq _, .str _ | .seq _, .tup _ | .seq _, .loc _ | .seq _, .fn _ => .isFalse fun h => by cases h
  | .loc _, .non | .loc _, .bl _ | .loc _, .int _ | .loc _, .str _ | .loc _, .tup _ | .loc _, .seq _ | .loc _, .fn _ => .isFalse fun h => by cases h
  | .fn _, .non | .fn _, .bl _ | .fn _, .int _ | .fn _, .str _ | .fn _, .tup _ | .fn _, .seq _ | .fn _, .loc _ => .isFalse fun h => by cases h
def D.decs : (a b : List D) → Decidable (a = b)
  | [], [] => .isTrue rfl
  | x :: xs, y :: ys => match D.dec x y, D.decs xs ys with
    | .isTrue h, .isTrue g => .isTrue (h ▸ g ▸ rfl)
    | .isFalse h, _ => .isFalse fun q => h (by injection q)
    | _, .isFalse h => .isFalse fun q => h (by injection q)
  | [], _ :: _ | _ :: _, [] => .isFalse fun h => by cases h
end
instance : DecidableEq D := D.dec

/-- what stands at a place: a list, a dict (locked while it is gone through), an instance -/
inductive O where
  | lst (xs : List D) | dict (kvs : List (D × D)) (lk : Bool) | inst (c : Nat) (fs : List (Nat × D))
  deriving DecidableEq
abbrev Mem := List O
def lkO : O → Bool
  | .dict _ lk => lk
  | _ => false

mutual
/-- no place from n on -/
def closed (n : Nat) : D → Bool
  | .loc l => decide (l < n)
  | .tup xs => closeds n xs
  | .seq xs => closeds n xs
  | _ => true
def closeds (n : Nat) : List D → Bool
  | [] => true
  | x :: xs => closed n x && closeds n xs
end
theorem closeds_all (n : Nat) (xs : List D) : closeds n xs = xs.all (closed n) := by
  induction xs with
  | nil => rfl
  | cons x xs ih => simp [closeds, ih]

/-- an expression's end: a value; an exception of the class c with its one field; nothing told -/
inductive Out (α : Type) where
  | ok (a : α) (m : Mem) | exc (c : Nat) (p : Option D) (m : Mem) | bad
def Out.bind {α β : Type} (r : Out α) (k : α → Mem → Out β) : Out β := match r with
  | .ok a m => k a m
  | .exc c p m => .exc c p m
  | .bad => .bad
@[simp] theorem Out.bind_ok {α β : Type} (a : α) (m : Mem) (k : α → Mem → Out β) : Out.bind (.ok a m) k = k a m := rfl
@[simp] theorem Out.bind_exc {α β : Type} (c : Nat) (p : Option D) (m : Mem) (k : α → Mem → Out β) : Out.bind (.exc c p m) k = .exc c p m := rfl
@[simp] theorem Out.bind_bad {α β : Type} (k : α → Mem → Out β) : Out.bind .bad k = .bad := rfl
def Out.ofO {α : Type} : Option (α × Mem) → Out α
  | some (a, m) => .ok a m
  | none => .bad
@[simp] theorem Out.ofO_some {α : Type} (a : α) (m : Mem) : Out.ofO (some (a, m)) = .ok a m := rfl
@[simp] theorem Out.ofO_none {α : Type} : Out.ofO (none : Option (α × Mem)) = .bad := rfl

abbrev Env := List (Option D)
abbrev FE := Nat → List D → Mem → Out D
abbrev Den := FE → Env → Mem → Out D
abbrev DenT := FE → Env → Mem → Out Bool
abbrev DenA := FE → Env → Mem → Out (List D)

/-- no place from n on in what stands at a place -/
def closedO (n : Nat) : O → Bool
  | .lst xs => closeds n xs
  | .dict kvs _ => kvs.all fun q => closed n q.1 && closed n q.2
  | .inst _ fs => fs.all fun q => closed n q.2
/-- the places from n on may go -/
def cutOk (m m' : Mem) : Bool := decide (m'.take m.length = m) || (decide (m.length ≤ m'.length) && (m'.take m.length).all (closedO m.length))
/-- what was made on the way is forgotten, if nothing leads to it -/
def gcO (m : Mem) : Out D → Out D
  | .ok v m' => if cutOk m m' = true ∧ closed m.length v = true then .ok v (m'.take m.length) else .ok v m'
  | .exc c p m' => if cutOk m m' = true ∧ (p.all (closed m.length)) = true then .exc c p (m'.take m.length) else .exc c p m'
  | .bad => .bad
def gcB (m : Mem) : Out Bool → Out Bool
  | .ok v m' => if cutOk m m' = true then .ok v (m'.take m.length) else .ok v m'
  | .exc c p m' => if cutOk m m' = true ∧ (p.all (closed m.length)) = true then .exc c p (m'.take m.length) else .exc c p m'
  | .bad => .bad

/-- a statement's end -/
inductive OutS where
  | next (ρ : Env) (m : Mem) | ret (v : D) (m : Mem) | brk (ρ : Env) (m : Mem) | cont (ρ : Env) (m : Mem)
  | exc (c : Nat) (p : Option D) (ρ : Env) (m : Mem) | bad
abbrev DenS := FE → Env → Mem → OutS

/-! ### values -/
mutual
/-- == -/
def eqv : D → D → Bool
  | .non, .non => true
  | .bl a, .bl b => a == b
  | .bl a, .int b => (if a then 1 else 0) == b
  | .int a, .bl b => a == (if b then 1 else 0)
  | .int a, .int b => a == b
  | .str a, .str b => a == b
  | .tup a, .tup b => eqvs a b
  | _, _ => false
def eqvs : List D → List D → Bool
  | [], [] => true
  | x :: xs, y :: ys => eqv x y && eqvs xs ys
  | _, _ => false
end
mutual
/-- no place within, not deeper than n -/
def pureD : Nat → D → Bool
  | _, .non => true
  | _, .bl _ => true
  | _, .int _ => true
  | _, .str s => PyData.strOk s
  | 0, .tup _ => false
  | n + 1, .tup xs => pureDs n xs
  | _, .seq _ => false
  | _, .loc _ => false
  | _, .fn _ => false
def pureDs : Nat → List D → Bool
  | _, [] => true
  | n, x :: xs => pureD n x && pureDs n xs
end
/-- the plain tree that a value stands for -/
def rd (m : Mem) : Nat → D → Option PyData
  | _, .non => some .none
  | _, .bl b => some (.bool b)
  | _, .int i => some (.int i)
  | _, .str s => if PyData.strOk s = true then some (.str s) else none
  | 0, .tup _ => none
  | n + 1, .tup xs => (xs.mapM (rd m n)).map .tuple
  | 0, .seq _ => none
  | n + 1, .seq xs => (xs.mapM (rd m n)).map .list
  | 0, .loc _ => none
  | n + 1, .loc l => match m[l]? with
    | some (.lst xs) => (xs.mapM (rd m n)).map .list
    | _ => none
  | _, .fn _ => none
mutual
def toPy : D → PyData
  | .non => .none
  | .bl b => .bool b
  | .int i => .int i
  | .str s => .str s
  | .tup xs => .tuple (toPys xs)
  | .seq xs => .list (toPys xs)
  | .loc _ => .none
  | .fn _ => .none
def toPys : List D → List PyData
  | [] => []
  | x :: xs => toPy x :: toPys xs
end
theorem toPys_map (xs : List D) : toPys xs = xs.map toPy := by
  induction xs with
  | nil => rfl
  | cons x xs ih => simp [toPys, ih]
/-- a == b -/
def eqM (m : Mem) (a b : D) : Option Bool :=
  if pureD 12 a = true ∧ pureD 12 b = true then some (eqv a b) else
    match rd m 12 a, rd m 12 b with
    | some x, some y => some (PyData.eqv x y)
    | _, _ => none
/-- a < b of tuples -/
def ltT (a b : D) : Option Bool :=
  if pureD 12 a = true ∧ pureD 12 b = true ∧ comp (toPy a) (toPy b) = true then some (PySem.W.dataLt (toPy a) (toPy b)) else none
/-- the items of a list or tuple -/
def itemsM (m : Mem) : D → Option (List D)
  | .tup xs => some xs
  | .seq xs => some xs
  | .loc l => match m[l]? with
    | some (.lst xs) => some xs
    | _ => none
  | _ => none
abbrev Op2 := D → D → Mem → Option (D × Mem)
def opAdd : Op2
  | .int i, .int j, m => some (.int (i + j), m)
  | .str s, .str t, m => if s.length + t.length ≤ sizeLine then some (.str (s ++ t), m) else none
  | .tup xs, .tup ys, m => if xs.length + ys.length ≤ sizeLine then some (.tup (xs ++ ys), m) else none
  | .loc a, .loc b, m => match m[a]?, m[b]? with
    | some (.lst xs), some (.lst ys) => if xs.length + ys.length ≤ sizeLine then some (.loc m.length, m ++ [.lst (xs ++ ys)]) else none
    | _, _ => none
  | _, _, _ => none
def opSub : Op2
  | .int i, .int j, m => some (.int (i - j), m)
  | _, _, _ => none
def opMul : Op2
  | .int i, .int j, m => if ((-(2 ^ 64) < i ∧ i < 2 ^ 64) ∨ (-(2 ^ 64) < j ∧ j < 2 ^ 64)) then some (.int (i * j), m) else none
  | .loc a, .int k, m => match m[a]? with
    | some (.lst xs) => if -(2 ^ 63) ≤ k ∧ k < 2 ^ 63 ∧ xs.length * k.toNat ≤ sizeLine then some (.loc m.length, m ++ [.lst (List.replicate k.toNat xs).flatten]) else none
    | _ => none
  | _, _, _ => none
def opFdiv : Op2
  | .int i, .int j, m => if j ≠ 0 ∧ j.natAbs < 1073741824 then some (.int (i.fdiv j), m) else none
  | _, _, _ => none
def opMod : Op2
  | .int i, .int j, m => if j ≠ 0 then some (.int (i.fmod j), m) else none
  | _, _, _ => none
def opPow : Op2
  | .int i, .int j, m => if 0 ≤ j ∧ j ≤ 1000000 ∧ i.natAbs < 2 ^ 64 then some (.int (i ^ j.toNat), m) else none
  | _, _, _ => none
def opEq : Op2 := fun a b m => (eqM m a b).map fun k => (.bl k, m)
def opNe : Op2 := fun a b m => (eqM m a b).map fun k => (.bl (!k), m)
def opLt : Op2
  | .int i, .int j, m => some (.bl (decide (i < j)), m)
  | .str s, .str t, m => some (.bl (decide (s.cps.toList < t.cps.toList)), m)
  | .tup xs, .tup ys, m => (ltT (.tup xs) (.tup ys)).map fun k => (.bl k, m)
  | _, _, _ => none
def opLe : Op2
  | .int i, .int j, m => some (.bl (decide (i ≤ j)), m)
  | _, _, _ => none
def opGt : Op2
  | .int i, .int j, m => some (.bl (decide (j < i)), m)
  | _, _, _ => none
def opGe : Op2
  | .int i, .int j, m => some (.bl (decide (j ≤ i)), m)
  | _, _, _ => none
def opIs : Op2
  | a, .non, m => some (.bl (decide (a = .non)), m)
  | .bl a, .bl b, m => some (.bl (decide (a = b)), m)
  | _, _, _ => none
def opIsNot : Op2
  | a, .non, m => some (.bl (!decide (a = .non)), m)
  | .bl a, .bl b, m => some (.bl (!decide (a = b)), m)
  | _, _, _ => none
mutual
/-- a key as the library tells keys that are tuples -/
def keyN : D → Option NestedKey
  | .non => some .none
  | .int i => some (.num i)
  | .str s => some (.text s)
  | .tup xs => (keyNs xs).map .tup
  | _ => none
def keyNs : List D → Option (List NestedKey)
  | [] => some []
  | x :: xs => match keyN x, keyNs xs with
    | some k, some ks => some (k :: ks)
    | _, _ => none
end
/-- a key that is an int or a text -/
def keyM : D → Option L2.Key
  | .int i => some (.inl i)
  | .str s => some (.inr s)
  | _ => none
/-- a key that is a tuple -/
def keyT : D → Option NestedKey
  | .tup xs => match keyN (.tup xs) with
    | some k => if k.depth ≤ 8 then some k else none
    | none => none
  | _ => none
/-- the key is of the dict's kind -/
def kindOk (kvs : List (D × D)) (k : D) : Bool := ((keyM k).isSome && kvs.all fun p => (keyM p.1).isSome) || ((keyT k).isSome && kvs.all fun p => (keyT p.1).isSome)
/-- the value at a key -/
def dGet (kvs : List (D × D)) (k : D) : Option D := (kvs.find? fun p => decide (p.1 = k)).map (·.2)
def dPut (kvs : List (D × D)) (k v : D) : List (D × D) := if (dGet kvs k).isSome then kvs.map (fun p => if p.1 = k then (p.1, v) else p) else kvs ++ [(k, v)]
/-- x in c -/
def inM (m : Mem) (a c : D) : Option Bool :=
  match c with
  | .str t => match a with
    | .str s => match s.cps.toList with
      | [x] => some (decide (x ∈ t.cps.toList))
      | _ => none
    | _ => none
  | .loc l => match m[l]? with
    | some (.dict kvs _) => if kindOk kvs a = true then some (dGet kvs a).isSome else none
    | some (.lst xs) => if pureD 12 a = true ∧ pureDs 11 xs = true then some (xs.any fun z => eqv z a) else
      match rd m 12 a, xs.mapM (rd m 11) with
      | some x, some ys => some (ys.any fun z => PyData.eqv z x)
      | _, _ => none
    | _ => none
  | .tup xs => if pureD 12 a = true ∧ pureDs 11 xs = true then some (xs.any fun z => eqv z a) else none
  | _ => none
def opIn : Op2 := fun a b m => (inM m a b).map fun k => (.bl k, m)
def opNotIn : Op2 := fun a b m => (inM m a b).map fun k => (.bl (!k), m)
end Mn
set_option Elab.async false
set_option linter.all false
set_option maxRecDepth 100000
set_option maxHeartbeats 1000000
/-! Mn2: what stands for plain data over the abstract heap; extensions; ends. -/
namespace Mn
open PySem L2

/-- a place: its address, whether it is locked -/
abbrev Pl := Addr × Bool
/-- the text's part that is the same throughout: defs and own classes by number -/
structure Gx where
  P : Program
  w : World
  K : PySem.W.Frag
  fa : Nat → Option Addr
  ca : Nat → Option Addr
  xf : Nat → Str
/-- a list that nobody writes -/
def FzL (K : PySem.W.Frag) (H : Hp) (a : Addr) (xs : List V) : Prop :=
  (∃ o, H a = some (.frz o (.lst xs))) ∨
    ∃ (o : Obj) (its : Array Value) (n : Nat), K.lookup a = some o ∧ o.cls = .type "list" ∧ o.dict = none ∧ o.data = .seq its n ∧ its.size ≤ sizeLine ∧ Vals xs its.toList
theorem FzL.sq {K : PySem.W.Frag} {H : Hp} {a : Addr} {xs : List V} (h : FzL K H a xs) : SqL K H a xs := by
  rcases h with ⟨o, h⟩ | h
  · exact .inl (.inr ⟨o, h⟩)
  · exact .inr h

/-- a tuple that has no attributes -/
def FzT (K : PySem.W.Frag) (H : Hp) (a : Addr) (xs : List V) : Prop :=
  (∃ o, H a = some (.frz o (.tup xs)) ∧ o.dict = none) ∨
    ∃ (o : Obj) (its : Array Value) (n : Nat), K.lookup a = some o ∧ o.cls = .type "tuple" ∧ o.dict = none ∧ o.data = .seq its n ∧ its.size ≤ sizeLine ∧ Vals xs its.toList
theorem FzT.sq {K : PySem.W.Frag} {H : Hp} {a : Addr} {xs : List V} (h : FzT K H a xs) : SqT K H a xs := by
  rcases h with ⟨o, h, _⟩ | ⟨o, its, n, h1, h2, _, h3, h4, h5⟩
  · exact .inl (.inr ⟨o, h⟩)
  · exact .inr ⟨o, its, n, h1, h2, h3, h4, h5⟩
mutual
/-- v stands for the datum -/
def RV (G : Gx) (H : Hp) (β : List Pl) : V → D → Prop
  | v, .non => v = .non
  | v, .bl b => v = .bl b
  | v, .int i => v = .int i
  | v, .str s => v = .str s
  | v, .tup ds => ∃ a xs, v = .ref a ∧ FzT G.K H a xs ∧ RVs G H β xs ds
  | v, .seq ds => ∃ a xs, v = .ref a ∧ FzL G.K H a xs ∧ RVs G H β xs ds
  | v, .loc l => ∃ a f, v = .ref a ∧ β[l]? = some (a, f)
  | v, .fn n => ∃ a, v = .ref a ∧ G.fa n = some a
def RVs (G : Gx) (H : Hp) (β : List Pl) : List V → List D → Prop
  | xs, [] => xs = []
  | xs, d :: ds => ∃ x r, xs = x :: r ∧ RV G H β x d ∧ RVs G H β r ds
end
/-- every tuple is a tuple still, every other thing that no place holds -/
def TL (K : PySem.W.Frag) (H H' : Hp) : Prop := (∀ b xs, FzT K H b xs → FzT K H' b xs) ∧ ∀ b xs, FzL K H b xs → FzL K H' b xs
/-- a longer list of places -/
def BL (β β' : List Pl) : Prop := ∃ more, β' = β ++ more
theorem BL.refl (β : List Pl) : BL β β := ⟨[], by simp⟩
theorem BL.trans {a b c : List Pl} (h : BL a b) (g : BL b c) : BL a c := by
  obtain ⟨x, rfl⟩ := h
  obtain ⟨y, rfl⟩ := g
  exact ⟨x ++ y, by simp⟩
theorem BL.get {β β' : List Pl} (h : BL β β') {l : Nat} {a : Pl} (e : β[l]? = some a) : β'[l]? = some a := by
  obtain ⟨x, rfl⟩ := h
  rw [List.getElem?_append_left (List.getElem?_eq_some_iff.mp e).1]
  exact e
theorem TL.refl (K : PySem.W.Frag) (H : Hp) : TL K H H := ⟨fun _ _ h => h, fun _ _ h => h⟩
theorem TL.trans {K : PySem.W.Frag} {a b c : Hp} (h : TL K a b) (g : TL K b c) : TL K a c := ⟨fun _ _ x => g.1 _ _ (h.1 _ _ x), fun _ _ x => g.2 _ _ (h.2 _ _ x)⟩
mutual
theorem RV.mono {G : Gx} {H H' : Hp} {β β' : List Pl} (t : TL G.K H H') (b : BL β β') : ∀ (d : D) (v : V), RV G H β v d → RV G H' β' v d
  | .non, v, h => by simpa [RV] using h
  | .bl _, v, h => by simpa [RV] using h
  | .int _, v, h => by simpa [RV] using h
  | .str _, v, h => by simpa [RV] using h
  | .tup ds, v, h => by
    simp only [RV] at h ⊢
    obtain ⟨a, xs, e, hs, hr⟩ := h
    exact ⟨a, xs, e, t.1 _ _ hs, RVs.mono t b ds xs hr⟩
  | .seq ds, v, h => by
    simp only [RV] at h ⊢
    obtain ⟨a, xs, e, hs, hr⟩ := h
    exact ⟨a, xs, e, t.2 _ _ hs, RVs.mono t b ds xs hr⟩
  | .loc l, v, h => by
    simp only [RV] at h ⊢
    obtain ⟨a, f, e, hl⟩ := h
    exact ⟨a, f, e, b.get hl⟩
  | .fn n, v, h => by simpa [RV] using h
theorem RVs.mono {G : Gx} {H H' : Hp} {β β' : List Pl} (t : TL G.K H H') (b : BL β β') : ∀ (ds : List D) (vs : List V), RVs G H β vs ds → RVs G H' β' vs ds
  | [], vs, h => by simpa [RVs] using h
  | d :: ds, vs, h => by
    simp only [RVs] at h ⊢
    obtain ⟨x, r, e, h1, h2⟩ := h
    exact ⟨x, r, e, RV.mono t b d x h1, RVs.mono t b ds r h2⟩
end
mutual
/-- places from n on are not met -/
theorem RV.cut {G : Gx} {H : Hp} {β more : List Pl} : ∀ (d : D) (v : V), closed β.length d = true → RV G H (β ++ more) v d → RV G H β v d
  | .non, v, _, h => by simpa [RV] using h
  | .bl _, v, _, h => by simpa [RV] using h
  | .int _, v, _, h => by simpa [RV] using h
  | .str _, v, _, h => by simpa [RV] using h
  | .tup ds, v, c, h => by
    simp only [RV] at h ⊢
    obtain ⟨a, xs, e, hs, hr⟩ := h
    exact ⟨a, xs, e, hs, RVs.cut ds xs (by simpa [closed] using c) hr⟩
  | .seq ds, v, c, h => by
    simp only [RV] at h ⊢
    obtain ⟨a, xs, e, hs, hr⟩ := h
    exact ⟨a, xs, e, hs, RVs.cut ds xs (by simpa [closed] using c) hr⟩
  | .loc l, v, c, h => by
    simp only [RV] at h ⊢
    obtain ⟨a, f, e, hl⟩ := h
    have hl' : l < β.length := by simpa [closed] using c
    rw [List.getElem?_append_left hl'] at hl
    exact ⟨a, f, e, hl⟩
  | .fn n, v, _, h => by simpa [RV] using h
theorem RVs.cut {G : Gx} {H : Hp} {β more : List Pl} : ∀ (ds : List D) (vs : List V), closeds β.length ds = true → RVs G H (β ++ more) vs ds → RVs G H β vs ds
  | [], vs, _, h => by simpa [RVs] using h
  | d :: ds, vs, c, h => by
    simp only [RVs] at h ⊢
    obtain ⟨x, r, e, h1, h2⟩ := h
    have c' : closed β.length d = true ∧ closeds β.length ds = true := by simpa [closeds] using c
    exact ⟨x, r, e, RV.cut d x c'.1 h1, RVs.cut ds r c'.2 h2⟩
end
theorem RVs.length {G : Gx} {H : Hp} {β : List Pl} : ∀ {ds : List D} {vs : List V}, RVs G H β vs ds → vs.length = ds.length
  | [], vs, h => by simp only [RVs] at h; subst h; rfl
  | d :: ds, vs, h => by
    simp only [RVs] at h
    obtain ⟨x, r, rfl, _, h2⟩ := h
    simp [RVs.length h2]
theorem RVs.get {G : Gx} {H : Hp} {β : List Pl} : ∀ {ds : List D} {vs : List V} {i : Nat} {d : D}, RVs G H β vs ds → ds[i]? = some d → ∃ v, vs[i]? = some v ∧ RV G H β v d
  | [], vs, i, d, h, e => by simp at e
  | d' :: ds, vs, 0, d, h, e => by
    simp only [RVs] at h
    obtain ⟨x, r, rfl, h1, h2⟩ := h
    simp only [List.getElem?_cons_zero, Option.some.injEq] at e
    subst e
    exact ⟨x, rfl, h1⟩
  | d' :: ds, vs, i + 1, d, h, e => by
    simp only [RVs] at h
    obtain ⟨x, r, rfl, h1, h2⟩ := h
    obtain ⟨v, e1, h3⟩ := RVs.get h2 (i := i) (d := d) (by simpa using e)
    exact ⟨v, by simpa using e1, h3⟩
theorem RVs.get' {G : Gx} {H : Hp} {β : List Pl} {ds : List D} {vs : List V} {i : Nat} {v : V} (h : RVs G H β vs ds) (e : vs[i]? = some v) : ∃ d, ds[i]? = some d ∧ RV G H β v d := by
  have hl := h.length
  have hi := (List.getElem?_eq_some_iff.mp e).1
  have e' : ds[i]? = some ds[i] := List.getElem?_eq_getElem (by omega)
  obtain ⟨v', e1, r⟩ := h.get e'
  rw [e] at e1
  cases e1
  exact ⟨_, e', r⟩
theorem RVs.append {G : Gx} {H : Hp} {β : List Pl} : ∀ {ds es : List D} {vs us : List V}, RVs G H β vs ds → RVs G H β us es → RVs G H β (vs ++ us) (ds ++ es)
  | [], es, vs, us, h, g => by simp only [RVs] at h; subst h; simpa using g
  | d :: ds, es, vs, us, h, g => by
    simp only [RVs] at h
    obtain ⟨x, r, rfl, h1, h2⟩ := h
    simp only [List.cons_append, RVs]
    exact ⟨x, r ++ us, rfl, h1, RVs.append h2 g⟩
theorem RVs.one {G : Gx} {H : Hp} {β : List Pl} {d : D} {v : V} (h : RV G H β v d) : RVs G H β [v] [d] := by
  simp only [RVs]
  exact ⟨v, [], rfl, h, rfl⟩
theorem RVs.nil {G : Gx} {H : Hp} {β : List Pl} : RVs G H β [] [] := by simp [RVs]
theorem RVs.cons {G : Gx} {H : Hp} {β : List Pl} {d : D} {v : V} {ds : List D} {vs : List V} (h : RV G H β v d) (g : RVs G H β vs ds) : RVs G H β (v :: vs) (d :: ds) := by
  simp only [RVs]
  exact ⟨v, vs, rfl, h, g⟩
theorem RVs.uncons {G : Gx} {H : Hp} {β : List Pl} {d : D} {v : V} {ds : List D} {vs : List V} (h : RVs G H β (v :: vs) (d :: ds)) : RV G H β v d ∧ RVs G H β vs ds := by
  simp only [RVs] at h
  obtain ⟨x, r, e, h1, h2⟩ := h
  cases e
  exact ⟨h1, h2⟩
theorem RVs.drop {G : Gx} {H : Hp} {β : List Pl} : ∀ (n : Nat) {ds : List D} {vs : List V}, RVs G H β vs ds → RVs G H β (vs.drop n) (ds.drop n)
  | 0, _, _, h => h
  | n + 1, [], vs, h => by simp only [RVs] at h; subst h; simp [RVs]
  | n + 1, d :: ds, vs, h => by
    simp only [RVs] at h
    obtain ⟨x, r, rfl, h1, h2⟩ := h
    exact RVs.drop n h2
theorem RVs.take {G : Gx} {H : Hp} {β : List Pl} : ∀ (n : Nat) {ds : List D} {vs : List V}, RVs G H β vs ds → RVs G H β (vs.take n) (ds.take n)
  | 0, _, _, h => by simp [RVs]
  | n + 1, [], vs, h => by simp only [RVs] at h; subst h; simp [RVs]
  | n + 1, d :: ds, vs, h => by
    simp only [RVs] at h
    obtain ⟨x, r, rfl, h1, h2⟩ := h
    simp only [List.take_succ_cons]
    exact RVs.cons h1 (RVs.take n h2)
theorem RVs.set {G : Gx} {H : Hp} {β : List Pl} {d : D} {v : V} (q : RV G H β v d) : ∀ (n : Nat) {ds : List D} {vs : List V}, RVs G H β vs ds → RVs G H β (vs.set n v) (ds.set n d)
  | n, [], vs, h => by simp only [RVs] at h; subst h; simp [RVs]
  | 0, d' :: ds, vs, h => by
    simp only [RVs] at h
    obtain ⟨x, r, rfl, h1, h2⟩ := h
    exact RVs.cons q h2
  | n + 1, d' :: ds, vs, h => by
    simp only [RVs] at h
    obtain ⟨x, r, rfl, h1, h2⟩ := h
    exact RVs.cons h1 (RVs.set q n h2)

/-- an entry of a dict, told: its key and its value -/
def RValue (G : Gx) (H : Hp) (β : List Pl) (u : Value) (d : D) : Prop := ∃ v, RelV v u ∧ RV G H β v d
/-- a raw dict -/
def dictO (a : Addr) (es : Array DictEntry) (ep : Nat) : HO := .ext fun h => ∃ o, h.get? a = some o ∧ o.ExactDict ∧ o.data = .dict es ep
/-- the entries of a dict, by the one or the other kind of keys -/
def EntM (G : Gx) (H : Hp) (β : List Pl) (es : Array DictEntry) (kvs : List (D × D)) : Prop :=
  ∃ ks : List (L2.Key × Value), KeysOf (mixKind G.P G.w) es ∧ Pairs (mixKind G.P G.w) es.toList ks ∧ (ks.map (·.1)).Nodup ∧
    Paired (fun p (q : D × D) => keyM q.1 = some p.1 ∧ RValue G H β p.2 q.2) ks kvs
def EntN (G : Gx) (H : Hp) (β : List Pl) (es : Array DictEntry) (kvs : List (D × D)) : Prop :=
  ∃ xs : List (NestedKey × Addr × Value), es.toList = xs.map (entryOfKey (nestedKind G.P G.w)) ∧ (xs.map (·.1)).Nodup ∧
    Paired (fun x (q : D × D) => keyN q.1 = some x.1 ∧ x.1.depth ≤ 8 ∧ RV G H β (.ref x.2.1) q.1 ∧ RValue G H β x.2.2 q.2) xs kvs
/-- the attributes of an instance -/
def RFs (G : Gx) (H : Hp) (β : List Pl) : List (Str × V) → List (Nat × D) → Prop := Paired fun p q => p.1 = G.xf q.1 ∧ RV G H β p.2 q.2
/-- what stands at a place -/
def RO (G : Gx) (H : Hp) (β : List Pl) (a : Addr) : O → Prop
  | .lst ds => ∃ xs, H a = some (.lst xs) ∧ RVs G H β xs ds
  | .dict kvs _ => (a == sysModules) = false ∧ kvs.length ≤ sizeLine ∧ ∃ es ep, H a = some (dictO a es ep) ∧ (EntM G H β es kvs ∨ EntN G H β es kvs)
  | .inst c fs => ∃ C dx vs, G.ca c = some C ∧ H a = some (.ins C dx vs) ∧ H dx = some (.own a) ∧ RFs G H β vs fs
structure Rp (G : Gx) (H : Hp) (β : List Pl) (m : Mem) : Prop where
  len : β.length = m.length
  nd : (β.map (·.1)).Nodup
  at_ : ∀ (l : Nat) (o : O) (a : Addr) (f : Bool), m[l]? = some o → β[l]? = some (a, f) → f = lkO o ∧ RO G H β a o
/-- from H, β on -/
structure Ext (β : List Pl) (H H' : Hp) (β' : List Pl) : Prop where
  bl : BL β β'
  fr : ∀ b o, H b = some o → (b, false) ∉ β → H' b = some o
  nw : ∀ b f, (b, f) ∈ β' → (b, false) ∈ β ∨ (b, f) ∈ β ∨ H b = none
theorem Ext.refl {β : List Pl} {H : Hp} : Ext β H H β := ⟨BL.refl _, fun _ _ h _ => h, fun _ _ h => .inr (.inl h)⟩
theorem Ext.trans {β β1 β2 : List Pl} {H H1 H2 : Hp} (a : Ext β H H1 β1) (b : Ext β1 H1 H2 β2) : Ext β H H2 β2 where
  bl := a.bl.trans b.bl
  fr := fun p o e n => b.fr p o (a.fr p o e n) fun z => by
    rcases a.nw p false z with h | h | h
    · exact n h
    · exact n h
    · rw [e] at h; cases h
  nw := fun p f h => by
    rcases b.nw p f h with z | z | z
    · rcases a.nw p false z with z | z | z
      · exact .inl z
      · exact .inl z
      · exact .inr (.inr z)
    · exact a.nw p f z
    · by_cases hb : (p, false) ∈ β
      · exact .inl hb
      · cases q : H p with
        | none => exact .inr (.inr rfl)
        | some o => rw [a.fr p o q hb] at z; cases z
/-- no place holds a tuple or a locked thing -/
theorem Rp.kind {G : Gx} {H : Hp} {β : List Pl} {m : Mem} (r : Rp G H β m) {b : Addr} {o : HO} (e : H b = some o) (h : match o with | .tup _ => True | .frz _ _ => True | .own _ => True | .xd _ => True | .tbl _ => True | .met _ _ => True | .rng _ _ => True | .set _ _ => True | _ => False) (f : Bool) : (b, f) ∉ β := by
  intro hb
  obtain ⟨l, hl⟩ := List.mem_iff_getElem?.mp hb
  have hlt := (List.getElem?_eq_some_iff.mp hl).1
  rw [r.len] at hlt
  have hm : m[l]? = some m[l] := List.getElem?_eq_getElem hlt
  have := (r.at_ l _ b f hm hl).2
  generalize m[l] = ob at this
  cases ob with
  | lst ds => obtain ⟨xs, h1, _⟩ := this; rw [e] at h1; cases h1; exact h
  | dict kvs lk => obtain ⟨_, _, es, ep, h1, _⟩ := this; rw [e] at h1; cases h1; exact h
  | inst c fs => obtain ⟨C, dx, vs, _, h1, _⟩ := this; rw [e] at h1; cases h1; exact h
theorem Ext.tl {G : Gx} {H H' : Hp} {β β' : List Pl} {m : Mem} (x : Ext β H H' β') (r : Rp G H β m) : TL G.K H H' := by
  refine ⟨fun b xs h => ?_, fun b xs h => ?_⟩
  · rcases h with ⟨o, h, hd⟩ | h
    · exact .inl ⟨o, x.fr _ _ h (r.kind h trivial false), hd⟩
    · exact .inr h
  · rcases h with ⟨o, h⟩ | h
    · exact .inl ⟨o, x.fr _ _ h (r.kind h trivial false)⟩
    · exact .inr h
/-- the slots -/
structure RS (G : Gx) (H : Hp) (β : List Pl) (σ : L2.St) (ρ : Env) : Prop where
  len : σ.length = ρ.length
  at_ : ∀ (i : Nat) (d : D), ρ[i]? = some (some d) → ∃ v, σ[i]? = some (some v) ∧ RV G H β v d
theorem RS.mono {G : Gx} {H H' : Hp} {β β' : List Pl} {σ : L2.St} {ρ : Env} (r : RS G H β σ ρ) (t : TL G.K H H') (b : BL β β') : RS G H' β' σ ρ :=
  ⟨r.len, fun i d e => let ⟨v, h1, h2⟩ := r.at_ i d e; ⟨v, h1, RV.mono t b d v h2⟩⟩
theorem RS.ext {G : Gx} {H H' : Hp} {β β' : List Pl} {m : Mem} {σ : L2.St} {ρ : Env} (r : RS G H β σ ρ) (p : Rp G H β m) (x : Ext β H H' β') : RS G H' β' σ ρ := r.mono (x.tl p) x.bl
theorem RS.set {G : Gx} {H : Hp} {β : List Pl} {σ : L2.St} {ρ : Env} (r : RS G H β σ ρ) (i : Nat) {d : D} {v : V} (q : RV G H β v d) : RS G H β (σ.set i (some v)) (ρ.set i (some d)) where
  len := by simp [r.len]
  at_ := fun j e h => by
    by_cases hj : i = j
    · subst hj
      have hlt : i < ρ.length := by
        have := (List.getElem?_eq_some_iff.mp h).1
        simpa using this
      rw [List.getElem?_set_self hlt] at h
      simp only [Option.some.injEq] at h
      subst h
      exact ⟨v, List.getElem?_set_self (by rw [r.len]; exact hlt), q⟩
    · rw [List.getElem?_set_ne hj] at h
      obtain ⟨v', h1, h2⟩ := r.at_ j e h
      exact ⟨v', by rw [List.getElem?_set_ne hj]; exact h1, h2⟩
theorem RS.unset {G : Gx} {H : Hp} {β : List Pl} {σ : L2.St} {ρ : Env} (r : RS G H β σ ρ) (i : Nat) (y : Option V) : RS G H β (σ.set i y) (ρ.set i none) where
  len := by simp [r.len]
  at_ := fun j e h => by
    by_cases hj : i = j
    · subst hj
      have hlt : i < ρ.length := by
        have := (List.getElem?_eq_some_iff.mp h).1
        simpa using this
      rw [List.getElem?_set_self hlt] at h
      simp at h
    · rw [List.getElem?_set_ne hj] at h
      obtain ⟨v', h1, h2⟩ := r.at_ j e h
      exact ⟨v', by rw [List.getElem?_set_ne hj]; exact h1, h2⟩
/-- an exception: its class, its one field -/
def RX (G : Gx) (H : Hp) (β : List Pl) (cls : Value) (dd : Option Addr) (c : Nat) (p : Option D) : Prop :=
  ∃ C, cls = .ref C ∧ G.ca c = some C ∧ match p with
    | none => dd = none
    | some d => ∃ x v, dd = some x ∧ H x = some (.xd [(G.xf c, v)]) ∧ RV G H β v d
/-- what is wanted behind a value -/
def Post (G : Gx) (H : Hp) (β : List Pl) (m' : Mem) (v : D) (Q : VK) : Prop := ∀ u β' H', Ext β H H' β' → Rp G H' β' m' → RV G H' β' u v → Q u H'
def PostX (G : Gx) (H : Hp) (β : List Pl) (m' : Mem) (c : Nat) (p : Option D) (W : XK) : Prop := ∀ cls dd β' H', Ext β H H' β' → Rp G H' β' m' → RX G H' β' cls dd c p → W cls dd H'
def GoodE (G : Gx) (W : XK) (H : Hp) (β : List Pl) (Q : VK) : Out D → Prop
  | .ok v m' => Post G H β m' v Q
  | .exc c p m' => PostX G H β m' c p W
  | .bad => False
/-- the reading of an expression by its denotation -/
def tE (G : Gx) (W : WX) (fe : FE) (d : Den) : TE := fun σ H Q => ∃ β m ρ, Rp G H β m ∧ RS G H β σ ρ ∧ GoodE G (fun c d H' => W c d σ H') H β Q (d fe ρ m)
end Mn
set_option Elab.async false
set_option linter.all false
set_option maxRecDepth 100000
set_option maxHeartbeats 1000000
/-! Mn3: what a step leaves; joining. -/
namespace Mn
open PySem L2
theorem Paired.mapP' {α β : Type} {F G : α → β → Prop} {l₁ : List α} {l₂ : List β} (h : Paired F l₁ l₂) (f : ∀ a b, F a b → G a b) : Paired G l₁ l₂ := Paired.mapP h f
theorem RValue.mono {G : Gx} {H H' : Hp} {β β' : List Pl} (t : TL G.K H H') (b : BL β β') {u : Value} {d : D} (h : RValue G H β u d) : RValue G H' β' u d :=
  let ⟨v, r, q⟩ := h; ⟨v, r, RV.mono t b d v q⟩
theorem EntM.mono {G : Gx} {H H' : Hp} {β β' : List Pl} (t : TL G.K H H') (b : BL β β') {es : Array DictEntry} {kvs : List (D × D)} (h : EntM G H β es kvs) : EntM G H' β' es kvs :=
  let ⟨ks, h1, h2, h3, h4⟩ := h; ⟨ks, h1, h2, h3, Paired.mapP h4 fun _ _ z => ⟨z.1, z.2.mono t b⟩⟩
theorem EntN.mono {G : Gx} {H H' : Hp} {β β' : List Pl} (t : TL G.K H H') (b : BL β β') {es : Array DictEntry} {kvs : List (D × D)} (h : EntN G H β es kvs) : EntN G H' β' es kvs :=
  let ⟨ks, h1, h2, h3⟩ := h; ⟨ks, h1, h2, Paired.mapP h3 fun _ _ z => ⟨z.1, z.2.1, RV.mono t b _ _ z.2.2.1, z.2.2.2.mono t b⟩⟩
theorem RFs.mono {G : Gx} {H H' : Hp} {β β' : List Pl} (t : TL G.K H H') (b : BL β β') {vs : List (Str × V)} {fs : List (Nat × D)} (h : RFs G H β vs fs) : RFs G H' β' vs fs :=
  Paired.mapP h fun _ _ z => ⟨z.1, RV.mono t b _ _ z.2⟩
theorem RO.mono {G : Gx} {H H' : Hp} {β β' : List Pl} (t : TL G.K H H') (b : BL β β') {a : Addr} (ha : ∀ o, H a = some o → H' a = some o) (ho : ∀ dx, H dx = some (.own a) → H' dx = some (.own a)) {o : O} (h : RO G H β a o) : RO G H' β' a o := by
  cases o with
  | lst ds => obtain ⟨xs, h1, h2⟩ := h; exact ⟨xs, ha _ h1, RVs.mono t b ds xs h2⟩
  | dict kvs lk =>
    obtain ⟨h1, h2, es, ep, h3, h4⟩ := h
    refine ⟨h1, h2, es, ep, ha _ h3, ?_⟩
    rcases h4 with h4 | h4
    · exact .inl (h4.mono t b)
    · exact .inr (h4.mono t b)
  | inst c fs => obtain ⟨C, dx, vs, h1, h2, h3, h4⟩ := h; exact ⟨C, dx, vs, h1, ha _ h2, ho _ h3, h4.mono t b⟩
/-- a longer heap -/
abbrev Hle (H H' : Hp) : Prop := ∀ b o, H b = some o → H' b = some o
theorem Hle.tl {K : PySem.W.Frag} {H H' : Hp} (h : Hle H H') : TL K H H' := by
  refine ⟨fun b xs x => ?_, fun b xs x => ?_⟩
  · rcases x with ⟨o, x, hd⟩ | x
    · exact .inl ⟨o, h _ _ x, hd⟩
    · exact .inr x
  · rcases x with ⟨o, x⟩ | x
    · exact .inl ⟨o, h _ _ x⟩
    · exact .inr x
theorem Hle.upd {H : Hp} {p : Addr} {o : HO} (h : H p = none) : Hle H (upd H p o) := fun b o' e => by rw [upd_ne (ne_of_none e h)]; exact e
theorem Rp.le {G : Gx} {H H' : Hp} {β : List Pl} {m : Mem} (r : Rp G H β m) (h : Hle H H') : Rp G H' β m :=
  ⟨r.len, r.nd, fun l o a f e1 e2 => ⟨(r.at_ l o a f e1 e2).1, (r.at_ l o a f e1 e2).2.mono h.tl (BL.refl _) (h a) fun dx q => h dx _ q⟩⟩
theorem Ext.le {H H' : Hp} {β : List Pl} (h : Hle H H') : Ext β H H' β := ⟨BL.refl _, fun b o e _ => h b o e, fun _ _ h => .inr (.inl h)⟩
/-- each place stands in the heap -/
theorem Rp.there {G : Gx} {H : Hp} {β : List Pl} {m : Mem} (r : Rp G H β m) {a : Addr} {f : Bool} (h : (a, f) ∈ β) : ∃ o, H a = some o := by
  obtain ⟨l, hl⟩ := List.mem_iff_getElem?.mp h
  have hlt := (List.getElem?_eq_some_iff.mp hl).1
  rw [r.len] at hlt
  have := (r.at_ l _ a f (List.getElem?_eq_getElem hlt) hl).2
  generalize m[l] = ob at this
  cases ob with
  | lst ds => obtain ⟨xs, h1, _⟩ := this; exact ⟨_, h1⟩
  | dict kvs lk => obtain ⟨_, _, es, ep, h1, _⟩ := this; exact ⟨_, h1⟩
  | inst c fs => obtain ⟨C, dx, vs, _, h1, _⟩ := this; exact ⟨_, h1⟩
theorem Rp.fresh {G : Gx} {H : Hp} {β : List Pl} {m : Mem} (r : Rp G H β m) {p : Addr} (h : H p = none) (f : Bool) : (p, f) ∉ β := fun q => by
  obtain ⟨o, e⟩ := r.there q
  rw [h] at e; cases e
/-- a new place -/
theorem Rp.alloc {G : Gx} {H : Hp} {β : List Pl} {m : Mem} (r : Rp G H β m) {p : Addr} {ob : HO} {o : O} (hp : H p = none) (hf : lkO o = false) (new : RO G (upd H p ob) (β ++ [(p, false)]) p o) : Rp G (upd H p ob) (β ++ [(p, false)]) (m ++ [o]) where
  len := by simp [r.len]
  nd := by
    rw [List.map_append, List.nodup_append]
    refine ⟨r.nd, by simp, fun a ha b hb => ?_⟩
    simp only [List.map_cons, List.map_nil, List.mem_singleton] at hb
    subst hb
    obtain ⟨q, hq, rfl⟩ := List.mem_map.mp ha
    exact fun e => r.fresh (p := q.1) (by rw [e]; exact hp) q.2 hq
  at_ := fun l o' a f e1 e2 => by
    have h := Hle.upd (o := ob) hp
    by_cases hl : l < m.length
    · rw [List.getElem?_append_left hl] at e1
      rw [List.getElem?_append_left (by rw [r.len]; exact hl)] at e2
      exact ⟨(r.at_ l o' a f e1 e2).1, (r.at_ l o' a f e1 e2).2.mono h.tl ⟨_, rfl⟩ (h a) fun dx q => h dx _ q⟩
    · have hl2 : l = m.length := by
        have := (List.getElem?_eq_some_iff.mp e1).1
        simp only [List.length_append, List.length_singleton] at this
        omega
      subst hl2
      rw [List.getElem?_append_right (Nat.le_refl _)] at e1
      rw [List.getElem?_append_right (by rw [r.len]; exact Nat.le_refl _)] at e2
      simp only [Nat.sub_self, List.getElem?_cons_zero, Option.some.injEq, r.len] at e1 e2
      subst e1
      cases e2
      exact ⟨hf.symm, new⟩
theorem Ext.alloc {H : Hp} {β : List Pl} {p : Addr} {ob : HO} (hp : H p = none) : Ext β H (upd H p ob) (β ++ [(p, false)]) :=
  ⟨⟨_, rfl⟩, fun b o e _ => Hle.upd hp b o e, fun b f h => by
    rcases List.mem_append.mp h with h | h
    · exact .inr (.inl h)
    · simp only [List.mem_singleton] at h
      cases h; exact .inr (.inr hp)⟩
/-- a place is written -/
theorem Ext.write {H : Hp} {β : List Pl} {l : Nat} {a : Addr} {ob : HO} (ha : β[l]? = some (a, false)) : Ext β H (upd H a ob) β :=
  ⟨BL.refl _, fun b o e n => by
    rw [upd_ne fun q : b = a => n (by rw [q]; exact List.mem_of_getElem? ha)]
    exact e, fun _ _ h => .inr (.inl h)⟩
theorem Rp.write {G : Gx} {H : Hp} {β : List Pl} {m : Mem} (r : Rp G H β m) {l : Nat} {a : Addr} {ob : HO} {o : O} (ha : β[l]? = some (a, false)) (hf : lkO o = false) (new : RO G (upd H a ob) β a o) : Rp G (upd H a ob) β (m.set l o) where
  len := by simp [r.len]
  nd := r.nd
  at_ := fun j o' b f e1 e2 => by
    have x := Ext.write (H := H) (ob := ob) ha
    by_cases hj : l = j
    · subst hj
      rw [ha] at e2; cases e2
      have hl := (List.getElem?_eq_some_iff.mp e1).1
      rw [List.length_set] at hl
      rw [List.getElem?_set_self hl] at e1
      cases e1
      exact ⟨hf.symm, new⟩
    · rw [List.getElem?_set_ne hj] at e1
      have hba : b ≠ a := fun q => hj (by
        subst q
        have h1 : (β.map (·.1))[l]? = some b := by rw [List.getElem?_map, ha]; rfl
        have h2 : (β.map (·.1))[j]? = some b := by rw [List.getElem?_map, e2]; rfl
        exact (List.getElem?_inj (List.getElem?_eq_some_iff.mp h1).1 r.nd).mp (h1.trans h2.symm))
      refine ⟨(r.at_ j o' b f e1 e2).1, (r.at_ j o' b f e1 e2).2.mono (x.tl r) (BL.refl _) (fun o e => by rw [upd_ne hba]; exact e) fun dx q => ?_⟩
      exact x.fr dx _ q (r.kind q trivial false)
mutual
theorem RV.closed {G : Gx} {H : Hp} {β : List Pl} : ∀ (d : D) (v : V), RV G H β v d → closed β.length d = true
  | .non, v, _ => rfl
  | .bl _, v, _ => rfl
  | .int _, v, _ => rfl
  | .str _, v, _ => rfl
  | .tup ds, v, h => by
    simp only [RV] at h
    obtain ⟨a, xs, e, hs, hr⟩ := h
    simp only [Mn.closed]
    exact RVs.closed ds xs hr
  | .seq ds, v, h => by
    simp only [RV] at h
    obtain ⟨a, xs, e, hs, hr⟩ := h
    simp only [Mn.closed]
    exact RVs.closed ds xs hr
  | .loc l, v, h => by
    simp only [RV] at h
    obtain ⟨a, f, e, hl⟩ := h
    simp only [Mn.closed]
    exact decide_eq_true (List.getElem?_eq_some_iff.mp hl).1
  | .fn n, v, _ => rfl
theorem RVs.closed {G : Gx} {H : Hp} {β : List Pl} : ∀ (ds : List D) (vs : List V), RVs G H β vs ds → closeds β.length ds = true
  | [], vs, _ => rfl
  | d :: ds, vs, h => by
    simp only [RVs] at h
    obtain ⟨x, r, e, h1, h2⟩ := h
    simp only [closeds, RV.closed d x h1, RVs.closed ds r h2, Bool.and_self]
end
theorem RValue.cut {G : Gx} {H : Hp} {β more : List Pl} {u : Value} {d : D} (c : closed β.length d = true) (h : RValue G H (β ++ more) u d) : RValue G H β u d :=
  let ⟨v, r, q⟩ := h; ⟨v, r, RV.cut d v c q⟩
theorem RValue.closed {G : Gx} {H : Hp} {β : List Pl} {u : Value} {d : D} (h : RValue G H β u d) : Mn.closed β.length d = true :=
  let ⟨v, r, q⟩ := h; RV.closed d v q
/-- the object leads to no place from n on -/
def closedP (n : Nat) : O → Prop
  | .lst ds => closeds n ds = true
  | .dict kvs _ => ∀ q ∈ kvs, closed n q.1 = true ∧ closed n q.2 = true
  | .inst _ fs => ∀ q ∈ fs, closed n q.2 = true
theorem Paired.mem2 {α β : Type} {F : α → β → Prop} : ∀ {l₁ : List α} {l₂ : List β}, Paired F l₁ l₂ → ∀ b ∈ l₂, ∃ a ∈ l₁, F a b
  | _, _, .nil, b, h => by simp at h
  | _, _, .cons r t, b, h => by
    rcases List.mem_cons.mp h with rfl | h
    · exact ⟨_, List.mem_cons_self, r⟩
    · obtain ⟨a, h1, h2⟩ := Paired.mem2 t b h
      exact ⟨a, List.mem_cons_of_mem _ h1, h2⟩
theorem Paired.impMem {α β : Type} {F G : α → β → Prop} : ∀ {l₁ : List α} {l₂ : List β}, Paired F l₁ l₂ → (∀ a, ∀ b ∈ l₂, F a b → G a b) → Paired G l₁ l₂
  | _, _, .nil, _ => .nil
  | _, _, .cons r t, f => .cons (f _ _ List.mem_cons_self r) (Paired.impMem t fun a b h => f a b (List.mem_cons_of_mem _ h))
mutual
theorem keyN_closed (n : Nat) : ∀ (d : D) (k : NestedKey), keyN d = some k → closed n d = true
  | .non, k, _ => rfl
  | .int _, k, _ => rfl
  | .str _, k, _ => rfl
  | .tup xs, k, h => by
    simp only [keyN, Option.map_eq_some_iff] at h
    obtain ⟨ks, h1, _⟩ := h
    simp only [closed]
    exact keyNs_closed n xs ks h1
  | .bl _, k, h => by simp [keyN] at h
  | .seq _, k, h => by simp [keyN] at h
  | .loc _, k, h => by simp [keyN] at h
  | .fn _, k, h => by simp [keyN] at h
theorem keyNs_closed (n : Nat) : ∀ (ds : List D) (ks : List NestedKey), keyNs ds = some ks → closeds n ds = true
  | [], _, _ => rfl
  | d :: ds, ks, h => by
    simp only [keyNs] at h
    split at h
    · rename_i k ks' e1 e2
      simp only [closeds, keyN_closed n d k e1, keyNs_closed n ds ks' e2, Bool.and_self]
    · cases h
end
theorem keyM_closed (n : Nat) {d : D} {k : L2.Key} (h : keyM d = some k) : closed n d = true := by
  cases d <;> simp [keyM] at h <;> rfl
theorem RO.closed {G : Gx} {H : Hp} {β : List Pl} {a : Addr} {o : O} (h : RO G H β a o) : closedP β.length o := by
  cases o with
  | lst ds => obtain ⟨xs, h1, h2⟩ := h; exact RVs.closed ds xs h2
  | dict kvs lk =>
    obtain ⟨_, _, es, ep, _, h4⟩ := h
    intro q hq
    rcases h4 with ⟨ks, _, _, _, h⟩ | ⟨xs, _, _, h⟩
    · obtain ⟨p, _, h1, h2⟩ := Paired.mem2 h q hq
      exact ⟨keyM_closed _ h1, h2.closed⟩
    · obtain ⟨p, _, h1, _, _, h2⟩ := Paired.mem2 h q hq
      exact ⟨keyN_closed _ _ _ h1, h2.closed⟩
  | inst c fs =>
    obtain ⟨C, dx, vs, _, _, _, h⟩ := h
    intro q hq
    obtain ⟨p, _, _, h2⟩ := Paired.mem2 h q hq
    exact RV.closed _ _ h2
theorem RO.cut {G : Gx} {H : Hp} {β more : List Pl} {a : Addr} {o : O} (c : closedP β.length o) (h : RO G H (β ++ more) a o) : RO G H β a o := by
  cases o with
  | lst ds => obtain ⟨xs, h1, h2⟩ := h; exact ⟨xs, h1, RVs.cut ds xs c h2⟩
  | dict kvs lk =>
    obtain ⟨h1, h2, es, ep, h3, h4⟩ := h
    refine ⟨h1, h2, es, ep, h3, ?_⟩
    rcases h4 with ⟨ks, e1, e2, e3, h⟩ | ⟨xs, e1, e2, h⟩
    · exact .inl ⟨ks, e1, e2, e3, Paired.impMem h fun p q hq z => ⟨z.1, z.2.cut (c q hq).2⟩⟩
    · exact .inr ⟨xs, e1, e2, Paired.impMem h fun p q hq z => ⟨z.1, z.2.1, RV.cut _ _ (c q hq).1 z.2.2.1, z.2.2.2.cut (c q hq).2⟩⟩
  | inst k fs =>
    obtain ⟨C, dx, vs, h1, h2, h3, h⟩ := h
    exact ⟨C, dx, vs, h1, h2, h3, Paired.impMem h fun p q hq z => ⟨z.1, RV.cut _ _ (c q hq) z.2⟩⟩
/-- what was made on the way is forgotten -/
theorem Rp.cut {G : Gx} {H H' : Hp} {β β' : List Pl} {m m' : Mem} (r : Rp G H β m) (b : BL β β') (r' : Rp G H' β' m') (e : m'.take m.length = m) : Rp G H' β m := by
  obtain ⟨more, rfl⟩ := b
  refine ⟨r.len, r.nd, fun l o a f e1 e2 => ?_⟩
  have hl := (List.getElem?_eq_some_iff.mp e1).1
  have e3 : m'[l]? = some o := by
    have : (m'.take m.length)[l]? = some o := by rw [e]; exact e1
    rw [List.getElem?_take_of_lt hl] at this
    exact this
  have e4 : (β ++ more)[l]? = some (a, f) := by rw [List.getElem?_append_left (by rw [r.len]; exact hl)]; exact e2
  exact ⟨(r.at_ l o a f e1 e2).1, RO.cut (r.at_ l o a f e1 e2).2.closed (r'.at_ l o a f e3 e4).2⟩
theorem closedP_of {n : Nat} {o : O} (h : closedO n o = true) : closedP n o := by
  cases o with
  | lst ds => exact h
  | dict kvs lk =>
    intro q hq
    have := List.all_eq_true.mp h q hq
    simpa using this
  | inst c fs =>
    intro q hq
    exact List.all_eq_true.mp h q hq
theorem Rp.cutA {G : Gx} {H H' : Hp} {β β' : List Pl} {m m' : Mem} (r : Rp G H β m) (b : BL β β') (r' : Rp G H' β' m') (e : cutOk m m' = true) : Rp G H' β (m'.take m.length) := by
  simp only [cutOk, Bool.or_eq_true, decide_eq_true_eq, Bool.and_eq_true] at e
  rcases e with e | ⟨e1, e2⟩
  · have := r.cut b r' e
    rw [e]
    exact this
  · obtain ⟨more, rfl⟩ := b
    refine ⟨by rw [List.length_take, r.len]; omega, r.nd, fun l o a f q1 q2 => ?_⟩
    have hl : l < m.length := by
      have := (List.getElem?_eq_some_iff.mp q1).1
      rw [List.length_take] at this
      omega
    have q3 := q1
    rw [List.getElem?_take_of_lt hl] at q3
    have q4 : (β ++ more)[l]? = some (a, f) := by rw [List.getElem?_append_left (by rw [r.len]; exact hl)]; exact q2
    have z := r'.at_ l o a f q3 q4
    refine ⟨z.1, RO.cut ?_ z.2⟩
    have hm : o ∈ m'.take m.length := List.mem_of_getElem? q1
    rw [r.len]
    exact closedP_of (List.all_eq_true.mp e2 o hm)
theorem Ext.cut {H H' : Hp} {β β' : List Pl} (x : Ext β H H' β') : Ext β H H' β := ⟨BL.refl _, x.fr, fun _ _ h => .inr (.inl h)⟩

/-! ### joining -/
/-- an end of any kind -/
def GoodO {α : Type} (G : Gx) (W : XK) (H : Hp) (β : List Pl) (K : α → Mem → Hp → List Pl → Prop) : Out α → Prop
  | .ok a m' => ∀ β' H', Ext β H H' β' → Rp G H' β' m' → K a m' H' β'
  | .exc c p m' => PostX G H β m' c p W
  | .bad => False
section
variable {α γ : Type} {G : Gx} {W : XK} {H : Hp} {β : List Pl}
theorem GoodE.iff {Q : VK} {r : Out D} : GoodE G W H β Q r ↔ GoodO G W H β (fun v _ H' β' => ∀ u, RV G H' β' u v → Q u H') r := by
  cases r with
  | ok v m => exact ⟨fun h β' H' x r u q => h u β' H' x r q, fun h u β' H' x r q => h β' H' x r u q⟩
  | exc c p m => exact Iff.rfl
  | bad => exact Iff.rfl
theorem PostX.ext {m' : Mem} {c : Nat} {p : Option D} {H1 : Hp} {β1 : List Pl} (h : PostX G H β m' c p W) (x : Ext β H H1 β1) : PostX G H1 β1 m' c p W := fun cls dd β' H' x' r q => h cls dd β' H' (x.trans x') r q
theorem GoodO.ext {K : α → Mem → Hp → List Pl → Prop} {r : Out α} {H1 : Hp} {β1 : List Pl} (h : GoodO G W H β K r) (x : Ext β H H1 β1) : GoodO G W H1 β1 K r := by
  cases r with
  | ok a m => exact fun β' H' x' r => h β' H' (x.trans x') r
  | exc c p m => exact PostX.ext h x
  | bad => exact h
theorem GoodO.mono {K K' : α → Mem → Hp → List Pl → Prop} {r : Out α} (h : GoodO G W H β K r) (f : ∀ a m' H' β', Ext β H H' β' → Rp G H' β' m' → K a m' H' β' → K' a m' H' β') : GoodO G W H β K' r := by
  cases r with
  | ok a m => exact fun β' H' x r => f _ _ _ _ x r (h β' H' x r)
  | exc c p m => exact h
  | bad => exact h
theorem GoodO.bind {K : γ → Mem → Hp → List Pl → Prop} {r : Out α} {k : α → Mem → Out γ} (h : GoodO G W H β K (r.bind k)) : GoodO G W H β (fun a m1 H1 β1 => GoodO G W H1 β1 K (k a m1)) r := by
  cases r with
  | ok a m => exact fun β' H' x _ => GoodO.ext (show GoodO G W H β K (k a m) from h) x
  | exc c p m => exact h
  | bad => exact h
/-- garbage goes -/
theorem GoodE.gc {Q : VK} {m : Mem} {r : Out D} (p : Rp G H β m) (h : GoodE G W H β Q (gcO m r)) : GoodE G W H β Q r := by
  cases r with
  | ok v m' =>
    simp only [gcO] at h
    by_cases c : cutOk m m' = true ∧ closed m.length v = true
    · rw [if_pos c] at h
      intro u β' H' x r q
      have hb := x.bl
      obtain ⟨more, rfl⟩ := hb
      exact h u β H' x.cut (p.cutA ⟨more, rfl⟩ r c.1) (RV.cut v u (by rw [p.len]; exact c.2) q)
    · rw [if_neg c] at h
      exact h
  | exc c q m' =>
    simp only [gcO] at h
    by_cases cc : cutOk m m' = true ∧ (q.all (closed m.length)) = true
    · rw [if_pos cc] at h
      intro cls dd β' H' x r z
      have hb := x.bl
      obtain ⟨more, rfl⟩ := hb
      refine h cls dd β H' x.cut (p.cutA ⟨more, rfl⟩ r cc.1) ?_
      obtain ⟨C, e1, e2, e3⟩ := z
      refine ⟨C, e1, e2, ?_⟩
      cases q with
      | none => exact e3
      | some d =>
        obtain ⟨a, v, h1, h2, h3⟩ := e3
        exact ⟨a, v, h1, h2, RV.cut d v (by rw [p.len]; simpa using cc.2) h3⟩
    · rw [if_neg cc] at h
      exact h
  | bad => exact h
theorem GoodO.gcB {Q : Bool → Hp → Prop} {m : Mem} {r : Out Bool} (p : Rp G H β m) (h : GoodO G W H β (fun b _ H' _ => Q b H') (gcB m r)) : GoodO G W H β (fun b _ H' _ => Q b H') r := by
  cases r with
  | ok v m' =>
    simp only [Mn.gcB] at h
    by_cases c : cutOk m m' = true
    · rw [if_pos c] at h
      intro β' H' x r
      have hb := x.bl
      exact h β H' x.cut (p.cutA hb r c)
    · rw [if_neg c] at h
      exact h
  | exc c q m' =>
    simp only [Mn.gcB] at h
    by_cases cc : cutOk m m' = true ∧ (q.all (closed m.length)) = true
    · rw [if_pos cc] at h
      intro cls dd β' H' x r z
      have hb := x.bl
      obtain ⟨more, rfl⟩ := hb
      refine h cls dd β H' x.cut (p.cutA ⟨more, rfl⟩ r cc.1) ?_
      obtain ⟨C, e1, e2, e3⟩ := z
      refine ⟨C, e1, e2, ?_⟩
      cases q with
      | none => exact e3
      | some d =>
        obtain ⟨a, v, h1, h2, h3⟩ := e3
        exact ⟨a, v, h1, h2, RV.cut d v (by rw [p.len]; simpa using cc.2) h3⟩
    · rw [if_neg cc] at h
      exact h
  | bad => exact h
end
end Mn
set_option Elab.async false
set_option linter.all false
set_option maxRecDepth 100000
set_option maxHeartbeats 1000000
/-! Mn4: operators. -/
namespace Mn
open PySem L2
def PostO (G : Gx) (H : Hp) (β : List Pl) (Q : VK) : Option (D × Mem) → Prop
  | some (v, m') => Post G H β m' v Q
  | none => False
theorem GoodE.ofO {G : Gx} {W : XK} {H : Hp} {β : List Pl} {Q : VK} {r : Option (D × Mem)} (h : GoodE G W H β Q (Out.ofO r)) : PostO G H β Q r := by
  cases r with
  | none => exact h
  | some p => exact h
section
variable {G : Gx} {H : Hp} {β : List Pl} {m : Mem} {Q : VK}
theorem Post.same {d : D} {u : V} (h : Post G H β m d Q) (r : Rp G H β m) (q : RV G H β u d) : Q u H := h u β H Ext.refl r q
theorem Post.int {i : Int} (h : Post G H β m (.int i) Q) (r : Rp G H β m) : Q (.int i) H := h.same r (by simp [RV])
theorem Post.bl {i : Bool} (h : Post G H β m (.bl i) Q) (r : Rp G H β m) : Q (.bl i) H := h.same r (by simp [RV])
theorem Post.str {i : Str} (h : Post G H β m (.str i) Q) (r : Rp G H β m) : Q (.str i) H := h.same r (by simp [RV])
theorem Post.non (h : Post G H β m .non Q) (r : Rp G H β m) : Q .non H := h.same r (by simp [RV])
theorem Post.tup {ds : List D} {xs : List V} (h : Post G H β m (.tup ds) Q) (r : Rp G H β m) (q : RVs G H β xs ds) {p : Addr} {o : Obj} (hp : H p = none) (ho : o.dict = none) : Q (.ref p) (upd H p (.frz o (.tup xs))) := by
  have l := Hle.upd (o := .frz o (.tup xs)) hp
  refine h _ β _ (Ext.le l) (r.le l) ?_
  simp only [RV]
  exact ⟨p, xs, rfl, .inl ⟨o, upd_same, ho⟩, RVs.mono l.tl (BL.refl _) ds xs q⟩
theorem Post.lst {ds : List D} {xs : List V} (h : Post G H β (m ++ [.lst ds]) (.loc m.length) Q) (r : Rp G H β m) (q : RVs G H β xs ds) {p : Addr} (hp : H p = none) : Q (.ref p) (upd H p (.lst xs)) := by
  have l := Hle.upd (o := .lst xs) hp
  refine h _ (β ++ [(p, false)]) _ (Ext.alloc hp) (r.alloc hp rfl ⟨xs, upd_same, RVs.mono l.tl ⟨_, rfl⟩ ds xs q⟩) ?_
  simp only [RV]
  exact ⟨p, false, rfl, by rw [← r.len]; simp⟩
theorem Rp.lst {l : Nat} {ds : List D} {v : V} (r : Rp G H β m) (e : m[l]? = some (.lst ds)) (q : RV G H β v (.loc l)) : ∃ a xs, v = .ref a ∧ β[l]? = some (a, false) ∧ H a = some (.lst xs) ∧ RVs G H β xs ds := by
  simp only [RV] at q
  obtain ⟨a, f, rfl, h⟩ := q
  obtain ⟨hf, xs, h1, h2⟩ := r.at_ l _ a f e h
  cases (show f = false from hf)
  exact ⟨a, xs, rfl, h, h1, h2⟩
theorem Rp.dict {l : Nat} {kvs : List (D × D)} {lk : Bool} {v : V} (r : Rp G H β m) (e : m[l]? = some (.dict kvs lk)) (q : RV G H β v (.loc l)) :
    ∃ a es ep, v = .ref a ∧ β[l]? = some (a, lk) ∧ (a == sysModules) = false ∧ kvs.length ≤ sizeLine ∧ H a = some (dictO a es ep) ∧ (EntM G H β es kvs ∨ EntN G H β es kvs) := by
  simp only [RV] at q
  obtain ⟨a, f, rfl, h⟩ := q
  obtain ⟨hf, h0, h1, es, ep, h2, h3⟩ := r.at_ l _ a f e h
  cases (show f = lk from hf)
  exact ⟨a, es, ep, rfl, h, h0, h1, h2, h3⟩
theorem mapM_some {α γ : Type} {f : α → Option γ} : ∀ {xs : List α} {ys : List γ}, xs.mapM f = some ys → Paired (fun x y => f x = some y) xs ys
  | [], ys, h => by simp at h; subst h; exact .nil
  | x :: xs, ys, h => by
    rw [List.mapM_cons] at h
    cases e : f x with
    | none => rw [e] at h; simp at h
    | some y =>
      rw [e] at h
      cases e2 : xs.mapM f with
      | none => rw [e2] at h; simp at h
      | some zs =>
        rw [e2] at h
        simp at h
        subst h
        exact .cons e (mapM_some e2)
theorem rd_dps (ih : ∀ (d : D) (x : PyData) (v : V), rd m n d = some x → RV G H β v d → Dp G.K H v x) : ∀ {ds : List D} {ys : List PyData} {vs : List V}, Paired (fun d y => rd m n d = some y) ds ys → RVs G H β vs ds → DpAll G.K H vs ys
  | _, _, vs, .nil, h => by simp only [RVs] at h; subst h; exact .nil
  | _, _, vs, .cons r t, h => by
    simp only [RVs] at h
    obtain ⟨x, q, rfl, h1, h2⟩ := h
    exact .cons (ih _ _ _ r h1) (rd_dps ih t h2)
theorem rd_dp (r : Rp G H β m) : ∀ (n : Nat) (d : D) (x : PyData) (v : V), rd m n d = some x → RV G H β v d → Dp G.K H v x
  | n, .non, x, v, h, q => by simp only [rd, Option.some.injEq] at h; simp only [RV] at q; subst h q; exact .non
  | n, .bl b, x, v, h, q => by simp only [rd, Option.some.injEq] at h; simp only [RV] at q; subst h q; exact .bl b
  | n, .int i, x, v, h, q => by simp only [rd, Option.some.injEq] at h; simp only [RV] at q; subst h q; exact .int i
  | n, .str s, x, v, h, q => by
    simp only [rd] at h; simp only [RV] at q; subst q
    split at h
    · simp only [Option.some.injEq] at h; subst h; exact .str s
    · cases h
  | 0, .tup _, x, v, h, q => by simp [rd] at h
  | n + 1, .tup ds, x, v, h, q => by
    simp only [rd, Option.map_eq_some_iff] at h
    obtain ⟨ys, h1, rfl⟩ := h
    simp only [RV] at q
    obtain ⟨a, xs, rfl, hs, hr⟩ := q
    exact .tup hs.sq (rd_dps (fun d x v => rd_dp r n d x v) (mapM_some h1) hr)
  | 0, .seq _, x, v, h, q => by simp [rd] at h
  | n + 1, .seq ds, x, v, h, q => by
    simp only [rd, Option.map_eq_some_iff] at h
    obtain ⟨ys, h1, rfl⟩ := h
    simp only [RV] at q
    obtain ⟨a, xs, rfl, hs, hr⟩ := q
    exact .lst hs.sq (rd_dps (fun d x v => rd_dp r n d x v) (mapM_some h1) hr)
  | 0, .loc _, x, v, h, q => by simp [rd] at h
  | n + 1, .loc l, x, v, h, q => by
    simp only [rd] at h
    cases e : m[l]? with
    | none => rw [e] at h; simp at h
    | some o =>
      rw [e] at h
      cases o with
      | lst ds =>
        simp only [Option.map_eq_some_iff] at h
        obtain ⟨ys, h1, rfl⟩ := h
        obtain ⟨a, xs, rfl, _, hs, hr⟩ := r.lst e q
        exact .lst (SqL.of hs) (rd_dps (fun d x v => rd_dp r n d x v) (mapM_some h1) hr)
      | dict kvs => simp at h
      | inst c fs => simp at h
  | _, .fn _, x, v, h, q => by simp [rd] at h
theorem rd_ok : ∀ (n : Nat) (d : D) (x : PyData), rd m n d = some x → x.canLay0 = true ∧ x.depth ≤ n
  | n, .non, x, h => by simp only [rd, Option.some.injEq] at h; subst h; exact ⟨rfl, Nat.zero_le _⟩
  | n, .bl b, x, h => by simp only [rd, Option.some.injEq] at h; subst h; exact ⟨rfl, Nat.zero_le _⟩
  | n, .int i, x, h => by simp only [rd, Option.some.injEq] at h; subst h; exact ⟨rfl, Nat.zero_le _⟩
  | n, .str s, x, h => by
    simp only [rd] at h
    split at h
    · rename_i c
      simp only [Option.some.injEq] at h; subst h; exact ⟨by simpa [PyData.canLay0] using c, Nat.zero_le _⟩
    · cases h
  | 0, .tup _, x, h => by simp [rd] at h
  | n + 1, .tup ds, x, h => by
    simp only [rd, Option.map_eq_some_iff] at h
    obtain ⟨ys, h1, rfl⟩ := h
    have k := rd_oks n (mapM_some h1) fun d x => rd_ok n d x
    exact ⟨by simpa [PyData.canLay0] using k.1, by simpa [PyData.depth] using k.2⟩
  | 0, .seq _, x, h => by simp [rd] at h
  | n + 1, .seq ds, x, h => by
    simp only [rd, Option.map_eq_some_iff] at h
    obtain ⟨ys, h1, rfl⟩ := h
    have k := rd_oks n (mapM_some h1) fun d x => rd_ok n d x
    exact ⟨by simpa [PyData.canLay0] using k.1, by simpa [PyData.depth] using k.2⟩
  | 0, .loc _, x, h => by simp [rd] at h
  | n + 1, .loc l, x, h => by
    simp only [rd] at h
    cases e : m[l]? with
    | none => rw [e] at h; simp at h
    | some o =>
      rw [e] at h
      cases o with
      | lst ds =>
        simp only [Option.map_eq_some_iff] at h
        obtain ⟨ys, h1, rfl⟩ := h
        have k := rd_oks n (mapM_some h1) fun d x => rd_ok n d x
        exact ⟨by simpa [PyData.canLay0] using k.1, by simpa [PyData.depth] using k.2⟩
      | dict kvs => simp at h
      | inst c fs => simp at h
  | _, .fn _, x, h => by simp [rd] at h
where
  rd_oks (n : Nat) : ∀ {ds : List D} {ys : List PyData}, Paired (fun d y => rd m n d = some y) ds ys → (∀ (d : D) (x : PyData), rd m n d = some x → x.canLay0 = true ∧ x.depth ≤ n) → PyData.canLayAll0 ys = true ∧ PyData.depthAll ys ≤ n
    | _, _, .nil, _ => ⟨rfl, Nat.zero_le _⟩
    | _, _, .cons r t, ih => by
      have a := ih _ _ r
      have b := rd_oks n t ih
      exact ⟨by simp [PyData.canLayAll0, a.1, b.1], by simp only [PyData.depthAll]; omega⟩
theorem rd_shaped {n : Nat} {d : D} {x : PyData} (hn : n ≤ 64) (h : rd m n d = some x) : SeqAt.shaped x = true := by
  obtain ⟨h1, h2⟩ := rd_ok n d x h
  simp only [SeqAt.shaped, h1, Bool.true_and]
  exact decide_eq_true (by omega)
mutual
theorem pure_rd : ∀ (n : Nat) (d : D), pureD n d = true → rd m n d = some (toPy d)
  | n, .non, _ => by simp [rd, toPy]
  | n, .bl _, _ => by simp [rd, toPy]
  | n, .int _, _ => by simp [rd, toPy]
  | n, .str s, h => by
    have h' : PyData.strOk s = true := by simpa [pureD] using h
    simp [rd, toPy, h']
  | 0, .tup _, h => by simp [pureD] at h
  | n + 1, .tup xs, h => by
    simp only [rd, toPy, pure_rds n xs (by simpa [pureD] using h), Option.map_some]
  | n, .seq _, h => by simp [pureD] at h
  | n, .loc _, h => by simp [pureD] at h
  | n, .fn _, h => by simp [pureD] at h
theorem pure_rds : ∀ (n : Nat) (ds : List D), pureDs n ds = true → ds.mapM (rd m n) = some (toPys ds)
  | n, [], _ => by simp [toPys]
  | n, d :: ds, h => by
    have h' : pureD n d = true ∧ pureDs n ds = true := by simpa [pureDs] using h
    rw [List.mapM_cons, pure_rd n d h'.1, pure_rds n ds h'.2]
    simp [toPys]
end
end
mutual
theorem eqv_py : ∀ (n k : Nat) (a b : D), pureD n a = true → pureD k b = true → eqv a b = PyData.eqv (toPy a) (toPy b)
  | n, k, .non, b, _, hb => by cases b <;> first | (simp [pureD] at hb; done) | rfl | simp [eqv, toPy, PyData.eqv]
  | n, k, .bl _, b, _, hb => by cases b <;> first | (simp [pureD] at hb; done) | rfl | simp [eqv, toPy, PyData.eqv]
  | n, k, .int _, b, _, hb => by cases b <;> first | (simp [pureD] at hb; done) | rfl | simp [eqv, toPy, PyData.eqv]
  | n, k, .str _, b, _, hb => by cases b <;> first | (simp [pureD] at hb; done) | rfl | simp [eqv, toPy, PyData.eqv]
  | 0, k, .tup _, b, h, _ => by simp [pureD] at h
  | n + 1, 0, .tup xs, b, h, hb => by cases b <;> first | (simp [pureD] at hb; done) | simp [eqv, toPy, PyData.eqv]
  | n + 1, k + 1, .tup xs, b, h, hb => by
    cases b with
    | tup ys =>
      simp only [eqv, toPy, PyData.eqv]
      exact eqvs_py n k xs ys (by simpa [pureD] using h) (by simpa [pureD] using hb)
    | _ => first | (simp [pureD] at hb; done) | simp [eqv, toPy, PyData.eqv]
  | n, k, .seq _, b, h, _ => by simp [pureD] at h
  | n, k, .loc _, b, h, _ => by simp [pureD] at h
  | n, k, .fn _, b, h, _ => by simp [pureD] at h
theorem eqvs_py : ∀ (n k : Nat) (a b : List D), pureDs n a = true → pureDs k b = true → eqvs a b = PyData.eqvAll (toPys a) (toPys b)
  | n, k, [], [], _, _ => by simp [eqvs, toPys, PyData.eqvAll]
  | n, k, [], _ :: _, _, _ => by simp [eqvs, toPys, PyData.eqvAll]
  | n, k, _ :: _, [], _, _ => by simp [eqvs, toPys, PyData.eqvAll]
  | n, k, x :: xs, y :: ys, h, hb => by
    have h' : pureD n x = true ∧ pureDs n xs = true := by simpa [pureDs] using h
    have hb' : pureD k y = true ∧ pureDs k ys = true := by simpa [pureDs] using hb
    simp only [eqvs, toPys, PyData.eqvAll, eqv_py n k x y h'.1 hb'.1, eqvs_py n k xs ys h'.2 hb'.2]
end
/-- what eqM tells is what == tells of the trees -/
theorem eqM_rd {m : Mem} {a b : D} {k : Bool} (h : eqM m a b = some k) : ∃ x y, rd m 12 a = some x ∧ rd m 12 b = some y ∧ k = PyData.eqv x y := by
  unfold eqM at h
  split at h
  · rename_i c
    simp only [Option.some.injEq] at h
    exact ⟨_, _, pure_rd 12 a c.1, pure_rd 12 b c.2, by rw [← h]; exact eqv_py _ _ _ _ c.1 c.2⟩
  · split at h
    · rename_i x y e1 e2
      simp only [Option.some.injEq] at h
      exact ⟨x, y, e1, e2, h.symm⟩
    · cases h

/-! ### the rules -/
def rO2 (G : Gx) (f : Op2) : R2 := fun x y H Q => ∃ β m a b, Rp G H β m ∧ RV G H β x a ∧ RV G H β y b ∧ PostO G H β Q (f a b m)
/-- the text's part is the context's -/
structure On (G : Gx) (X : Cx) : Prop where
  P : X.prog = G.P
  w : X.w = G.w
  K : X.K = G.K
/-! ### tuples that have no attributes -/
section
open PySem.Spec PyProof.Rows
variable {X : Cx} {es : List Expr} {t : TA} {pos : Pos}
def tTupF (t : TA) : TE := fun σ H Q => t σ H fun xs H1 => xs.length ≤ sizeLine ∧ ∀ p o, H1 p = none → Obj.dict o = none → Q (.ref p) (upd H1 p (.frz o (.tup xs)))
/-- a tuple just laid -/
theorem laidF {pins : List (Addr × Obj)} {σ : L2.St} {H : Hp} {s : Shared} {h' : Heap} {tk : Nat} {a : Addr} {xs : List V} {us : List Value} (I : L2.Inv X pins σ H s) (k : ∀ b u, s.heap.get? b = some u → h'.get? b = some u) (hp : s.heap.objs.size ≤ a)
    (hz : xs.length ≤ sizeLine) (r : Vals xs us) (he : h'.get? a = some { cls := .type "tuple", data := .seq us.toArray }) : L2.Inv X pins σ (upd H a (.frz { cls := .type "tuple", data := .seq us.toArray } (.tup xs))) { s with heap := h', toks := tk } :=
  I.laid (t' := tk) k hp ⟨he, hz, us, r, ⟨_, he, rfl, _, rfl⟩⟩
theorem pe_tupF {x1} (h : PA X es t) : PE X (.Tuple es x1 pos) (tTupF t) := by
  refine ⟨fun pins s σ H Q I hq => ?_⟩
  refine wpAny_Tuple_spliced (thn (h.run pos pins s σ H _ I hq) fun us s1 ⟨xs, H1, I1, r, z, q⟩ => ⟨by rw [← r.length]; exact z, ?_⟩)
  have hf : H1 s1.heap.objs.size = none := I1.hok.fresh (Nat.le_refl _)
  exact ⟨.ref s1.heap.objs.size, _, laidF I1 (tk := s1.toks) (fun b u e => Heap.get?_push_of_some _ e) (Nat.le_refl _) z r (Heap.get?_push_size _ rfl), rfl, q _ _ hf rfl⟩
def rCatF (K : PySem.W.Frag) : R2 := fun x y H Q => ∃ a b xs ys, x = .ref a ∧ y = .ref b ∧ SqT K H a xs ∧ SqT K H b ys ∧ xs.length + ys.length ≤ sizeLine ∧
  (xs = [] → Q (.ref b) H) ∧ (xs ≠ [] → ys = [] → Q (.ref a) H) ∧ (xs ≠ [] → ys ≠ [] → ∀ p o, H p = none → Obj.dict o = none → Q (.ref p) (upd H p (.frz o (.tup (xs ++ ys)))))
theorem op_catF : OpR X (binaryOp .Add) (rCatF X.K) := by
  intro pins s σ H x y v u Q I rx ry h
  obtain ⟨a, b, xs, ys, rfl, rfl, ha, hb, hz, q0, q1, q2⟩ := h
  by_cases hx : xs = []
  · exact op_catA pins s σ H _ _ v u Q I rx ry ⟨a, b, xs, ys, rfl, rfl, ha, hb, hz, q0, q1, fun n => absurd hx n⟩
  · cases rx
    cases ry
    obtain ⟨its, r1, p1, _⟩ := I.tuple ha
    obtain ⟨its2, r2, p2, _⟩ := I.tuple hb
    refine HT.cat_tup p1 p2 (fun z => hx (r1.nil_iff.mp z)) (fun z => ⟨.ref a, H, I, rfl, q1 hx (r2.nil_iff.mp z)⟩) (fun z => ?_) (by rw [← r1.length, ← r2.length]; exact hz)
    exact ⟨.ref s.heap.objs.size, _, laidF I (tk := s.toks) (fun b ob q => Heap.get?_push_of_some _ q) (Nat.le_refl _) (by rw [List.length_append]; exact hz) (r1.append r2) (Heap.get?_push_size _ rfl), rfl, q2 hx (fun w => z (r2.nil_iff.mpr w)) _ _ (I.hok.fresh (Nat.le_refl _)) rfl⟩
def rSlF (K : PySem.W.Frag) : V → Option Int → Option Int → Hp → VK → Prop := fun x lo hi H Q => ∃ a xs, x = .ref a ∧ SqT K H a xs ∧
  (HT.sIx xs.length 0 lo = 0 ∧ HT.sIx xs.length xs.length hi = xs.length → Q (.ref a) H) ∧ (¬ (HT.sIx xs.length 0 lo = 0 ∧ HT.sIx xs.length xs.length hi = xs.length) → ∀ p o, H p = none → Obj.dict o = none → Q (.ref p) (upd H p (.frz o (.tup (cutV xs lo hi)))))
theorem sl_tupF : SlR X (rSlF X.K) := by
  intro pins s σ H x v vl vu lo hi sl Q I rx hs pl pu h
  obtain ⟨a, xs, rfl, hx, q1, q2⟩ := h
  by_cases hw : HT.sIx xs.length 0 lo = 0 ∧ HT.sIx xs.length xs.length hi = xs.length
  · exact sl_tupA pins s σ H _ v vl vu lo hi sl Q I rx hs pl pu ⟨a, xs, rfl, hx, q1, fun n => absurd hw n⟩
  · cases rx
    obtain ⟨its, r, ht, hz⟩ := I.tuple hx
    have hlen : its.toArray.size = xs.length := by rw [List.size_toArray]; exact r.length.symm
    refine ⟨"tuple", _, PyProof.Rows.slot_tuple_getitem.lookup, ht.typeIs, ?_⟩
    refine HT.getItem_tuple_cut ht hs pl pu (by rw [hlen]; exact hw) ?_ (by rw [hlen]; exact hz)
    rw [hlen]
    exact ⟨.ref s.heap.objs.size, _, laidF I (tk := s.toks) (fun b ob q => Heap.get?_push_of_some _ q) (Nat.le_refl _) (Nat.le_trans (cutV_length xs lo hi) hz) ((r.drop (HT.sIx xs.length 0 lo)).take (HT.sIx xs.length xs.length hi - HT.sIx xs.length 0 lo)) (Heap.get?_push_size _ rfl), rfl, q2 hw _ _ (I.hok.fresh (Nat.le_refl _)) rfl⟩
theorem call_tupleF : CallR X (.type "tuple") (fun xs H Q => ∃ p ys, xs = [.ref p] ∧ ((SqL X.K H p ys ∧ ∀ l o, H l = none → Obj.dict o = none → Q (.ref l) (upd H l (.frz o (.tup ys)))) ∨ (SqT X.K H p ys ∧ Q (.ref p) H))) := by
  intro pins s σ H xs us Q I r h
  obtain ⟨p, ys, rfl, h⟩ := h
  rcases h with ⟨hq, q⟩ | ⟨hq, q⟩
  · obtain ⟨u, rfl, rx⟩ := vals1 r
    cases rx
    obtain ⟨its, r', pl, hz⟩ := I.list hq
    have hlen := r'.length
    refine call_tuple_list pl.isList (fun h' kp => ?_) (by simp only [List.size_toArray] <;> omega)
    have I1 : L2.Inv X pins σ H { s with heap := h' } := I.kept (t' := s.toks) kp
    have I2 := laidF (s := { s with heap := h' }) (h' := h'.push { cls := .type "tuple", data := .seq its.toArray }) (a := h'.objs.size) I1 (tk := s.toks) (fun b o e => Heap.get?_push_of_some _ e) (Nat.le_refl _) hz r' (Heap.get?_push_size _ rfl)
    exact ⟨.ref h'.objs.size, _, I2, rfl, q _ _ (I1.hok.fresh (Nat.le_refl _)) rfl⟩
  · exact call_tuple_of pins s σ H _ us Q I r ⟨p, ys, rfl, .inr ⟨hq, q⟩⟩
end
section
variable {G : Gx} {X : Cx}
theorem opAdd_ok (on : On G X) : OpR X (binaryOp .Add) (rO2 G opAdd) := by
  intro pins s σ H x y v u Q I rx ry ⟨β, m, a, b, rp, ra, rb, h⟩
  unfold opAdd at h
  split at h
  · simp only [RV] at ra rb; subst ra rb
    exact op_add pins s σ H _ _ v u Q I rx ry ⟨_, _, rfl, rfl, Post.int h rp⟩
  · simp only [RV] at ra rb; subst ra rb
    split at h
    · rename_i c
      exact op_add_str pins s σ H _ _ v u Q I rx ry ⟨_, _, rfl, rfl, c, Post.str h rp⟩
    · exact h.elim
  · rename_i xs ys
    split at h
    · rename_i c
      simp only [RV] at ra rb
      obtain ⟨p, vs, rfl, h1, h2⟩ := ra
      obtain ⟨q, us, rfl, h3, h4⟩ := rb
      rw [← on.K] at h1 h3
      refine op_catF pins s σ H _ _ v u Q I rx ry ⟨p, q, vs, us, rfl, rfl, h1.sq, h3.sq, by rw [h2.length, h4.length]; exact c, fun e => ?_, fun _ e => ?_, fun _ _ z o hz ho => ?_⟩
      · subst e
        have := h2.length
        have e2 : xs = [] := by cases xs with
          | nil => rfl
          | cons _ _ => simp at this
        subst e2
        refine Post.same h rp ?_
        simp only [RV, List.nil_append]
        exact ⟨q, us, rfl, on.K ▸ h3, h4⟩
      · subst e
        have := h4.length
        have e2 : ys = [] := by cases ys with
          | nil => rfl
          | cons _ _ => simp at this
        subst e2
        refine Post.same h rp ?_
        simp only [RV, List.append_nil]
        exact ⟨p, vs, rfl, on.K ▸ h1, h2⟩
      · exact Post.tup h rp (h2.append h4) hz ho
    · exact h.elim
  · split at h
    · rename_i xs ys e1 e2
      split at h
      · rename_i c
        obtain ⟨p, vs, rfl, _, h1, h2⟩ := rp.lst e1 ra
        obtain ⟨q, us, rfl, _, h3, h4⟩ := rp.lst e2 rb
        exact op_cat pins s σ H _ _ v u Q I rx ry ⟨p, q, vs, us, rfl, rfl, h1, h3, by rw [h2.length, h4.length]; exact c, fun z hz => Post.lst h rp (h2.append h4) hz⟩
      · exact h.elim
    · exact h.elim
  · exact h.elim
theorem opSub_ok (on : On G X) : OpR X (binaryOp .Sub) (rO2 G opSub) := by
  intro pins s σ H x y v u Q I rx ry ⟨β, m, a, b, rp, ra, rb, h⟩
  unfold opSub at h
  split at h
  · simp only [RV] at ra rb; subst ra rb
    exact op_sub pins s σ H _ _ v u Q I rx ry ⟨_, _, rfl, rfl, Post.int h rp⟩
  · exact h.elim
theorem RVs.rep {H : Hp} {β : List Pl} {ds : List D} {vs : List V} (h : RVs G H β vs ds) : ∀ k : Nat, RVs G H β (List.replicate k vs).flatten (List.replicate k ds).flatten
  | 0 => by simp [RVs]
  | k + 1 => by
    simp only [List.replicate_succ, List.flatten_cons]
    exact h.append (RVs.rep h k)
theorem opMul_ok (on : On G X) : OpR X (binaryOp .Mult) (rO2 G opMul) := by
  intro pins s σ H x y v u Q I rx ry ⟨β, m, a, b, rp, ra, rb, h⟩
  unfold opMul at h
  split at h
  · simp only [RV] at ra rb; subst ra rb
    split at h
    · rename_i c
      exact op_mul pins s σ H _ _ v u Q I rx ry ⟨_, _, rfl, rfl, c, Post.int h rp⟩
    · exact h.elim
  · split at h
    · rename_i xs e1
      split at h
      · rename_i c
        obtain ⟨p, vs, rfl, _, h1, h2⟩ := rp.lst e1 ra
        simp only [RV] at rb; subst rb
        exact op_rep pins s σ H _ _ v u Q I rx ry ⟨p, _, vs, rfl, rfl, h1, c.1, c.2.1, by rw [h2.length]; exact c.2.2, fun z hz => Post.lst h rp (h2.rep _) hz⟩
      · exact h.elim
    · exact h.elim
  · exact h.elim
theorem opFdiv_ok (on : On G X) : OpR X (binaryOp .FloorDiv) (rO2 G opFdiv) := by
  intro pins s σ H x y v u Q I rx ry ⟨β, m, a, b, rp, ra, rb, h⟩
  unfold opFdiv at h
  split at h
  · simp only [RV] at ra rb; subst ra rb
    split at h
    · rename_i c
      exact op_fdivN pins s σ H _ _ v u Q I rx ry ⟨_, _, rfl, rfl, c, Post.int h rp⟩
    · exact h.elim
  · exact h.elim
theorem opMod_ok (on : On G X) : OpR X (binaryOp .Mod) (rO2 G opMod) := by
  intro pins s σ H x y v u Q I rx ry ⟨β, m, a, b, rp, ra, rb, h⟩
  unfold opMod at h
  split at h
  · simp only [RV] at ra rb; subst ra rb
    split at h
    · rename_i c
      exact op_modN pins s σ H _ _ v u Q I rx ry ⟨_, _, rfl, rfl, c, Post.int h rp⟩
    · exact h.elim
  · exact h.elim
theorem opPow_ok (on : On G X) : OpR X (binaryOp .Pow) (rO2 G opPow) := by
  intro pins s σ H x y v u Q I rx ry ⟨β, m, a, b, rp, ra, rb, h⟩
  unfold opPow at h
  split at h
  · simp only [RV] at ra rb; subst ra rb
    split at h
    · rename_i c
      exact op_pow pins s σ H _ _ v u Q I rx ry ⟨_, _, rfl, rfl, c, Post.int h rp⟩
    · exact h.elim
  · exact h.elim
theorem opEq_ok (on : On G X) (hu : X.A.units + 64 < cLine) : OpR X (compareOp .Eq) (rO2 G opEq) := by
  intro pins s σ H x y v u Q I rx ry ⟨β, m, a, b, rp, ra, rb, h⟩
  unfold opEq at h
  cases e : eqM m a b with
  | none => rw [e] at h; exact h.elim
  | some k =>
    rw [e] at h
    obtain ⟨d1, d2, e1, e2, rfl⟩ := eqM_rd e
    exact op_eqD hu pins s σ H _ _ v u Q I rx ry ⟨d1, d2, on.K ▸ rd_dp rp _ _ _ _ e1 ra, on.K ▸ rd_dp rp _ _ _ _ e2 rb, rd_shaped (by decide) e1, rd_shaped (by decide) e2, Post.bl h rp⟩
theorem opNe_ok (on : On G X) (hu : X.A.units + 64 < cLine) : OpR X (compareOp .NotEq) (rO2 G opNe) := by
  intro pins s σ H x y v u Q I rx ry ⟨β, m, a, b, rp, ra, rb, h⟩
  unfold opNe at h
  cases e : eqM m a b with
  | none => rw [e] at h; exact h.elim
  | some k =>
    rw [e] at h
    obtain ⟨d1, d2, e1, e2, rfl⟩ := eqM_rd e
    exact op_neD hu pins s σ H _ _ v u Q I rx ry ⟨d1, d2, on.K ▸ rd_dp rp _ _ _ _ e1 ra, on.K ▸ rd_dp rp _ _ _ _ e2 rb, rd_shaped (by decide) e1, rd_shaped (by decide) e2, Post.bl h rp⟩
end
end Mn
set_option Elab.async false
set_option linter.all false
set_option maxRecDepth 100000
set_option maxHeartbeats 1000000
/-! Mn5: dicts. -/
namespace Mn
open PySem L2 PySem.Spec PyProof.Rows
/-! ### keys -/
mutual
theorem keyN_inj : ∀ (a b : D) (k : NestedKey), keyN a = some k → keyN b = some k → a = b
  | .non, b, k, ha, hb => by
    simp only [keyN, Option.some.injEq] at ha; subst ha
    cases b <;> simp [keyN] at hb <;> rfl
  | .int i, b, k, ha, hb => by
    simp only [keyN, Option.some.injEq] at ha; subst ha
    cases b <;> simp [keyN] at hb
    rw [hb]
  | .str i, b, k, ha, hb => by
    simp only [keyN, Option.some.injEq] at ha; subst ha
    cases b <;> simp [keyN] at hb
    rw [hb]
  | .tup xs, b, k, ha, hb => by
    simp only [keyN, Option.map_eq_some_iff] at ha
    obtain ⟨ks, h1, rfl⟩ := ha
    cases b <;> simp [keyN] at hb
    rw [keyNs_inj xs _ ks h1 hb]
  | .bl _, b, k, ha, hb => by simp [keyN] at ha
  | .seq _, b, k, ha, hb => by simp [keyN] at ha
  | .loc _, b, k, ha, hb => by simp [keyN] at ha
  | .fn _, b, k, ha, hb => by simp [keyN] at ha
theorem keyNs_inj : ∀ (a b : List D) (k : List NestedKey), keyNs a = some k → keyNs b = some k → a = b
  | [], b, k, ha, hb => by
    simp only [keyNs, Option.some.injEq] at ha; subst ha
    cases b with
    | nil => rfl
    | cons y ys =>
      simp only [keyNs] at hb
      split at hb <;> simp at hb
  | x :: xs, b, k, ha, hb => by
    simp only [keyNs] at ha
    split at ha
    · rename_i k1 ks1 e1 e2
      simp only [Option.some.injEq] at ha
      subst ha
      cases b with
      | nil => simp [keyNs] at hb
      | cons y ys =>
        simp only [keyNs] at hb
        split at hb
        · rename_i k2 ks2 e3 e4
          simp only [Option.some.injEq, List.cons.injEq] at hb
          obtain ⟨rfl, rfl⟩ := hb
          rw [keyN_inj x y _ e1 e3, keyNs_inj xs ys _ e2 e4]
        · cases hb
    · cases ha
end
theorem keyM_inj {a b : D} {k : L2.Key} (ha : keyM a = some k) (hb : keyM b = some k) : a = b := by
  cases a <;> simp [keyM] at ha <;> subst ha <;> cases b <;> simp [keyM] at hb <;> rw [hb]
theorem keyM_kV {G : Gx} {H : Hp} {β : List Pl} {d : D} {k : L2.Key} {v : V} (h : keyM d = some k) (r : RV G H β v d) : v = kV k := by
  cases d <;> simp [keyM] at h <;> subst h <;> simpa [RV, kV] using r
theorem keyT_N {d : D} {k : NestedKey} (h : keyT d = some k) : keyN d = some k ∧ k.depth ≤ 8 ∧ ∃ xs, d = .tup xs := by
  cases d with
  | tup xs =>
    simp only [keyT] at h
    split at h
    · rename_i k' e
      split at h
      · simp only [Option.some.injEq] at h; subst h
        rename_i c
        exact ⟨e, c, _, rfl⟩
      · cases h
    · cases h
  | _ => simp [keyT] at h
mutual
/-- a tuple's key stands in the heap -/
theorem nested_is {X : Cx} {pins : List (Addr × Obj)} {σ : L2.St} {H : Hp} {s : Shared} {G : Gx} {β : List Pl} (on : On G X) (I : L2.Inv X pins σ H s) : ∀ (d : D) (k : NestedKey) (v : V) (u : Value), keyN d = some k → RV G H β v d → RelV v u → NestedIs s.heap k u
  | .non, k, v, u, h, r, q => by
    simp only [keyN, Option.some.injEq] at h; simp only [RV] at r; subst h r
    cases q; exact .none
  | .int i, k, v, u, h, r, q => by
    simp only [keyN, Option.some.injEq] at h; simp only [RV] at r; subst h r
    obtain ⟨t, rfl⟩ := q; exact .int _ _
  | .str i, k, v, u, h, r, q => by
    simp only [keyN, Option.some.injEq] at h; simp only [RV] at r; subst h r
    obtain ⟨t, rfl⟩ := q; exact .text _ _
  | .tup ds, k, v, u, h, r, q => by
    simp only [keyN, Option.map_eq_some_iff] at h
    obtain ⟨ks, h1, rfl⟩ := h
    simp only [RV] at r
    obtain ⟨a, xs, rfl, hs, hr⟩ := r
    cases q
    rw [← on.K] at hs
    obtain ⟨its, rv, ⟨o, ho, hc, n, hd⟩, _⟩ := I.tuple hs.sq
    exact .tup ho hc hd (nested_all on I ds ks xs its h1 hr rv)
  | .bl _, k, v, u, h, r, q => by simp [keyN] at h
  | .seq _, k, v, u, h, r, q => by simp [keyN] at h
  | .loc _, k, v, u, h, r, q => by simp [keyN] at h
  | .fn _, k, v, u, h, r, q => by simp [keyN] at h
theorem nested_all {X : Cx} {pins : List (Addr × Obj)} {σ : L2.St} {H : Hp} {s : Shared} {G : Gx} {β : List Pl} (on : On G X) (I : L2.Inv X pins σ H s) : ∀ (ds : List D) (ks : List NestedKey) (vs : List V) (us : List Value), keyNs ds = some ks → RVs G H β vs ds → Vals vs us → NestedAll s.heap ks us
  | [], ks, vs, us, h, r, q => by
    simp only [keyNs, Option.some.injEq] at h; simp only [RVs] at r; subst h r
    cases q; exact .nil
  | d :: ds, ks, vs, us, h, r, q => by
    simp only [keyNs] at h
    split at h
    · rename_i k' ks' e1 e2
      simp only [Option.some.injEq] at h; subst h
      simp only [RVs] at r
      obtain ⟨x, xs, rfl, r1, r2⟩ := r
      cases q with
      | cons q1 q2 => exact .cons (nested_is on I d k' x _ e1 r1 q1) (nested_all on I ds ks' xs _ e2 r2 q2)
    · cases h
end
/-! ### the two kinds, at a dict's place -/
abbrev PM (G : Gx) (H : Hp) (β : List Pl) : List (L2.Key × Value) → List (D × D) → Prop := Paired (fun p (q : D × D) => keyM q.1 = some p.1 ∧ RValue G H β p.2 q.2)
abbrev PN (G : Gx) (H : Hp) (β : List Pl) : List (NestedKey × Addr × Value) → List (D × D) → Prop :=
  Paired (fun x (q : D × D) => keyN q.1 = some x.1 ∧ x.1.depth ≤ 8 ∧ RV G H β (.ref x.2.1) q.1 ∧ RValue G H β x.2.2 q.2)
theorem rv_ref_tup {G : Gx} {H : Hp} {β : List Pl} {a : Addr} {d : D} {k : NestedKey} (h : keyN d = some k) (r : RV G H β (.ref a) d) : keyM d = none := by
  cases d <;> simp [keyN] at h <;> simp [RV] at r <;> rfl
section
variable {G : Gx} {X : Cx} {pins : List (Addr × Obj)} {σ : L2.St} {H : Hp} {s : Shared} {β : List Pl} {a : Addr} {es : Array DictEntry} {ep : Nat} {kvs : List (D × D)}
theorem dictO_at (I : L2.Inv X pins σ H s) (h : H a = some (dictO a es ep)) : ∃ o ep, s.heap.get? a = some o ∧ o.ExactDict ∧ o.data = .dict es ep := let ⟨o, r⟩ := (I.hok a _ h).1; ⟨o, ep, r⟩
theorem dictO_new {P : Program} {w : World} {H' : Hp} {h' : Heap} (h : ∃ o, h'.get? a = some o ∧ o.ExactDict ∧ o.data = .dict es ep) : ObjOk P w H' h' a (dictO a es ep) :=
  ⟨h, let ⟨o, e, _⟩ := h; ⟨o, e⟩, fun _ _ ⟨o, e, r⟩ k => ⟨o, k o e, r⟩⟩
theorem empty_of {α : Type} {f : DictEntry → α} {l : List DictEntry} {xs : List α} (h : xs = []) (e : l.map f = xs) : l = [] := by
  subst h
  exact List.map_eq_nil_iff.mp e
/-- ints and texts -/
theorem dict_M (on : On G X) (I : L2.Inv X pins σ H s) (h : H a = some (dictO a es ep)) (e : EntM G H β es kvs ∨ EntN G H β es kvs) (hk : kvs.all (fun p => (keyM p.1).isSome) = true) :
    ∃ ks, s.heap.DictOf (mixKind X.prog X.w) a ks ∧ PM G H β ks kvs := by
  obtain ⟨o, ep, h1, h2, h3⟩ := dictO_at I h
  have em : EntM G H β es kvs := by
    rcases e with e | ⟨xs, e1, e2, e3⟩
    · exact e
    · cases kvs with
      | nil =>
        cases e3
        have z : es = #[] := by
          have : es.toList = [] := by simpa using e1
          exact Array.toList_eq_nil_iff.mp this
        subst z
        exact ⟨[], fun e he => by simp at he, .nil, by simp, .nil⟩
      | cons q qs =>
        cases e3 with
        | cons r t =>
          have := rv_ref_tup r.1 r.2.2.1
          simp [this] at hk
  obtain ⟨ks, g1, g2, g3, g4⟩ := em
  rw [on.P, on.w]
  exact ⟨ks, ⟨o, es, ep, h1, h2, h3, g1, g2, g3⟩, g4⟩
/-- tuples -/
theorem dict_N (on : On G X) (I : L2.Inv X pins σ H s) (h : H a = some (dictO a es ep)) (e : EntM G H β es kvs ∨ EntN G H β es kvs) (hk : kvs.all (fun p => (keyT p.1).isSome) = true) :
    ∃ xs, s.heap.DictOfH (nestedKind X.prog X.w) a xs ∧ PN G H β xs kvs := by
  obtain ⟨o, ep, h1, h2, h3⟩ := dictO_at I h
  have em : EntN G H β es kvs := by
    rcases e with ⟨xs, e1, e2, e3, e4⟩ | e
    · cases kvs with
      | nil =>
        cases e4
        have z : es = #[] := by
          have : es.toList = [] := by
            cases hh : es.toList with
            | nil => rfl
            | cons x r => rw [hh] at e2; cases e2
          exact Array.toList_eq_nil_iff.mp this
        subst z
        exact ⟨[], by simp, by simp, .nil⟩
      | cons q qs =>
        cases e4 with
        | cons r t =>
          have h0 : (keyT q.1).isSome = true := by
            simp only [List.all_cons, Bool.and_eq_true] at hk
            exact hk.1
          obtain ⟨k, hk'⟩ := Option.isSome_iff_exists.mp h0
          obtain ⟨_, _, xs, e⟩ := keyT_N hk'
          have r1 := r.1
          rw [e] at r1
          simp [keyM] at r1
    · exact e
  obtain ⟨xs, g1, g2, g3⟩ := em
  refine ⟨xs, ⟨o, es, ep, h1, h2, h3, ?_, fun x hx => ?_, g2⟩, g3⟩
  · rw [on.P, on.w]; exact g1
  · have : ∃ q ∈ kvs, keyN q.1 = some x.1 ∧ x.1.depth ≤ 8 ∧ RV G H β (.ref x.2.1) q.1 ∧ RValue G H β x.2.2 q.2 := by
      have aux : ∀ {l1 : List (NestedKey × Addr × Value)} {l2 : List (D × D)}, PN G H β l1 l2 → x ∈ l1 → ∃ q ∈ l2, keyN q.1 = some x.1 ∧ x.1.depth ≤ 8 ∧ RV G H β (.ref x.2.1) q.1 ∧ RValue G H β x.2.2 q.2 := by
        intro l1 l2 p
        induction p with
        | nil => intro h; simp at h
        | cons r t ih =>
          intro h
          rcases List.mem_cons.mp h with rfl | h
          · exact ⟨_, List.mem_cons_self, r⟩
          · obtain ⟨q, h1, h2⟩ := ih h
            exact ⟨q, List.mem_cons_of_mem _ h1, h2⟩
      exact aux g3 hx
    obtain ⟨q, _, r1, r2, r3, _⟩ := this
    exact ⟨nested_is on I q.1 x.1 _ _ r1 r3 rfl, r2⟩
end
/-- look-ups -/
theorem PM.get {G : Gx} {H : Hp} {β : List Pl} {k : D} {k' : L2.Key} (hk : keyM k = some k') : ∀ {ks : List (L2.Key × Value)} {kvs : List (D × D)}, PM G H β ks kvs →
    (dGet kvs k = none ∧ valueAt ks k' = none) ∨ ∃ d u, dGet kvs k = some d ∧ valueAt ks k' = some u ∧ RValue G H β u d
  | _, _, .nil => .inl ⟨rfl, rfl⟩
  | _, _, .cons (a := p) (b := q) r t => by
    by_cases h : q.1 = k
    · have e : p.1 = k' := by
        have r1 := r.1
        rw [h, hk] at r1
        exact (Option.some.inj r1).symm
      exact .inr ⟨q.2, p.2, by simp [dGet, h], by simp [valueAt, e], r.2⟩
    · have e : ¬ p.1 = k' := fun e => h (keyM_inj (by rw [r.1, e]) hk)
      rcases PM.get hk t with ⟨h1, h2⟩ | ⟨d, u, h1, h2, h3⟩
      · exact .inl ⟨by simpa [dGet, h] using h1, by simpa [valueAt, e] using h2⟩
      · exact .inr ⟨d, u, by simpa [dGet, h] using h1, by simpa [valueAt, e] using h2, h3⟩
theorem PN.get {G : Gx} {H : Hp} {β : List Pl} {k : D} {k' : NestedKey} (hk : keyN k = some k') : ∀ {ks : List (NestedKey × Addr × Value)} {kvs : List (D × D)}, PN G H β ks kvs →
    (dGet kvs k = none ∧ atKey ks k' = none) ∨ ∃ d b u, dGet kvs k = some d ∧ atKey ks k' = some (b, u) ∧ RValue G H β u d
  | _, _, .nil => .inl ⟨rfl, rfl⟩
  | _, _, .cons (a := p) (b := q) r t => by
    by_cases h : q.1 = k
    · have e : p.1 = k' := by
        have r1 := r.1
        rw [h, hk] at r1
        exact (Option.some.inj r1).symm
      exact .inr ⟨q.2, p.2.1, p.2.2, by simp [dGet, h], by simp [atKey, e], r.2.2.2⟩
    · have e : ¬ p.1 = k' := fun e => h (keyN_inj _ _ _ (by rw [r.1, e]) hk)
      rcases PN.get hk t with ⟨h1, h2⟩ | ⟨d, b, u, h1, h2, h3⟩
      · exact .inl ⟨by simpa [dGet, h] using h1, by simpa [atKey, e] using h2⟩
      · exact .inr ⟨d, b, u, by simpa [dGet, h] using h1, by simpa [atKey, e] using h2, h3⟩
/-- stores -/
theorem PM.map {G : Gx} {H : Hp} {β : List Pl} {k v : D} {k' : L2.Key} {u : Value} (hk : keyM k = some k') (ru : RValue G H β u v) : ∀ {ks : List (L2.Key × Value)} {kvs : List (D × D)}, PM G H β ks kvs →
    PM G H β (ks.map fun kv => if kv.1 = k' then (kv.1, u) else kv) (kvs.map fun p => if p.1 = k then (p.1, v) else p)
  | _, _, .nil => .nil
  | _, _, .cons (a := p) (b := q) r t => by
    simp only [List.map_cons]
    refine .cons ?_ (PM.map hk ru t)
    by_cases h : q.1 = k
    · have e : p.1 = k' := by
        have r1 := r.1
        rw [h, hk] at r1
        exact (Option.some.inj r1).symm
      rw [if_pos h, if_pos e]
      exact ⟨r.1, ru⟩
    · have e : ¬ p.1 = k' := fun e => h (keyM_inj (by rw [r.1, e]) hk)
      rw [if_neg h, if_neg e]
      exact r
theorem PM.snoc {G : Gx} {H : Hp} {β : List Pl} {k v : D} {k' : L2.Key} {u : Value} (hk : keyM k = some k') (ru : RValue G H β u v) : ∀ {ks : List (L2.Key × Value)} {kvs : List (D × D)}, PM G H β ks kvs → PM G H β (ks ++ [(k', u)]) (kvs ++ [(k, v)])
  | _, _, .nil => .cons ⟨hk, ru⟩ .nil
  | _, _, .cons r t => .cons r (PM.snoc hk ru t)
theorem any_valueAt {K : Type} [DecidableEq K] (ks : List (K × Value)) (k : K) : (ks.any fun kv => decide (kv.1 = k)) = (valueAt ks k).isSome := by
  induction ks with
  | nil => rfl
  | cons p r ih =>
    by_cases h : p.1 = k
    · simp [valueAt, h]
    · simp only [List.any_cons, h, decide_false, Bool.false_or, ih]
      simp [valueAt, h]
theorem PM.put {G : Gx} {H : Hp} {β : List Pl} {k v : D} {k' : L2.Key} {u : Value} (hk : keyM k = some k') (ru : RValue G H β u v) {ks : List (L2.Key × Value)} {kvs : List (D × D)} (h : PM G H β ks kvs) : PM G H β (stored ks k' u) (dPut kvs k v) := by
  unfold stored dPut
  rw [any_valueAt]
  rcases h.get hk with ⟨h1, h2⟩ | ⟨d, u', h1, h2, _⟩
  · rw [h1, h2]; exact PM.snoc hk ru h
  · rw [h1, h2]; exact PM.map hk ru h
theorem PN.map {G : Gx} {H : Hp} {β : List Pl} {k v : D} {k' : NestedKey} {u : Value} (hk : keyN k = some k') (ru : RValue G H β u v) : ∀ {ks : List (NestedKey × Addr × Value)} {kvs : List (D × D)}, PN G H β ks kvs →
    PN G H β (ks.map (putAt k' u)) (kvs.map fun p => if p.1 = k then (p.1, v) else p)
  | _, _, .nil => .nil
  | _, _, .cons (a := p) (b := q) r t => by
    simp only [List.map_cons]
    refine .cons ?_ (PN.map hk ru t)
    by_cases h : q.1 = k
    · have e : p.1 = k' := by
        have r1 := r.1
        rw [h, hk] at r1
        exact (Option.some.inj r1).symm
      rw [if_pos h, putAt, if_pos e]
      exact ⟨r.1, r.2.1, r.2.2.1, ru⟩
    · have e : ¬ p.1 = k' := fun e => h (keyN_inj _ _ _ (by rw [r.1, e]) hk)
      rw [if_neg h, putAt, if_neg e]
      exact r
theorem PN.snoc {G : Gx} {H : Hp} {β : List Pl} {k v : D} {k' : NestedKey} {b : Addr} {u : Value} (hk : keyN k = some k') (hd : k'.depth ≤ 8) (rb : RV G H β (.ref b) k) (ru : RValue G H β u v) : ∀ {ks : List (NestedKey × Addr × Value)} {kvs : List (D × D)}, PN G H β ks kvs → PN G H β (ks ++ [(k', b, u)]) (kvs ++ [(k, v)])
  | _, _, .nil => .cons ⟨hk, hd, rb, ru⟩ .nil
  | _, _, .cons r t => .cons r (PN.snoc hk hd rb ru t)
theorem PN.put {G : Gx} {H : Hp} {β : List Pl} {k v : D} {k' : NestedKey} {b : Addr} {u : Value} (hk : keyN k = some k') (hd : k'.depth ≤ 8) (rb : RV G H β (.ref b) k) (ru : RValue G H β u v) {ks : List (NestedKey × Addr × Value)} {kvs : List (D × D)} (h : PN G H β ks kvs) : PN G H β (storedH ks k' b u) (dPut kvs k v) := by
  unfold storedH dPut
  rcases h.get hk with ⟨h1, h2⟩ | ⟨d, b', u', h1, h2, _⟩
  · rw [h1, h2]; exact PN.snoc hk hd rb ru h
  · rw [h1, h2]; exact PN.map hk ru h
theorem length_dPut (kvs : List (D × D)) (k v : D) : (dPut kvs k v).length ≤ kvs.length + 1 := by
  unfold dPut
  split <;> simp
section
variable {G : Gx} {X : Cx} {pins : List (Addr × Obj)} {σ : L2.St} {H : Hp} {s : Shared} {β : List Pl} {a : Addr} {es : Array DictEntry} {ep : Nat} {kvs : List (D × D)} {A : Around} {E : Value → Shared → Prop}
theorem nroom {A : Around} (hu : A.units + 64 < cLine) : (nestedKind X.prog X.w).room A.in1 := by
  show A.units + 1 + 8 < cLine
  omega
theorem nroom0 {A : Around} (hu : A.units + 64 < cLine) : (nestedKind X.prog X.w).room A := by
  show A.units + 8 < cLine
  omega
/-- what the dict has at a key -/
inductive DAt (G : Gx) (H : Hp) (β : List Pl) (kvs : List (D × D)) (k : D) : Prop
  | mk
theorem kind_cases {k : D} (h : kindOk kvs k = true) : (∃ k', keyM k = some k' ∧ kvs.all (fun p => (keyM p.1).isSome) = true) ∨ ∃ k', keyN k = some k' ∧ k'.depth ≤ 8 ∧ (∃ xs, k = .tup xs) ∧ kvs.all (fun p => (keyT p.1).isSome) = true := by
  unfold kindOk at h
  rw [Bool.or_eq_true, Bool.and_eq_true, Bool.and_eq_true] at h
  rcases h with ⟨h1, h2⟩ | ⟨h1, h2⟩
  · obtain ⟨k', e⟩ := Option.isSome_iff_exists.mp h1
    exact .inl ⟨k', e, h2⟩
  · obtain ⟨k', e⟩ := Option.isSome_iff_exists.mp h1
    obtain ⟨e1, e2, e3⟩ := keyT_N e
    exact .inr ⟨k', e1, e2, e3, h2⟩
variable {k : D} {y : V} {u : Value}
/-- y in d -/
theorem din_ok {Q : Value → Shared → Prop} (on : On G X) (hu : A.units + 64 < cLine) (I : L2.Inv X pins σ H s) (hs : (a == sysModules) = false) (h : H a = some (dictO a es ep)) (e : EntM G H β es kvs ∨ EntN G H β es kvs) (hk : kindOk kvs k = true) (ry : RV G H β y k) (ru : RelV y u)
    (hq : ∀ s', L2.Inv X pins σ H s' → Q (.bool (dGet kvs k).isSome) s') : wpAny (model X.prog X.w) A (compareOp .In u (.ref a)) Q E s := by
  rcases kind_cases hk with ⟨k', e1, e2⟩ | ⟨k', e1, e2, ⟨xs, e3⟩, e4⟩
  · obtain ⟨ks, dd, pm⟩ := dict_M on I h e e2
    have yk := keyM_kV e1 ry
    subst yk
    refine wpAny_in_of (kV_is ru) hs dd.mapOf ?_
    have := hq _ (I.tok (s.toks + 1))
    rcases pm.get e1 with ⟨h1, h2⟩ | ⟨d, w, h1, h2, _⟩
    · rw [h1] at this; rw [h2]; exact this
    · rw [h1] at this; rw [h2]; exact this
  · obtain ⟨ks, dd, pn⟩ := dict_N on I h e e4
    subst e3
    have ry' := ry
    simp only [RV] at ry'
    obtain ⟨b, ys, rfl, _, _⟩ := ry'
    cases ru
    refine wpAny_in_heap (nroom hu) ⟨nested_is on I _ _ _ _ e1 ry rfl, e2⟩ hs dd ?_
    have := hq _ (I.tok (s.toks + (nestedKind X.prog X.w).draws k'))
    rcases pn.get e1 with ⟨h1, h2⟩ | ⟨d, b', w, h1, h2, _⟩
    · rw [h1] at this; rw [h2]; exact this
    · rw [h1] at this; rw [h2]; exact this
theorem dnotin_ok {Q : Value → Shared → Prop} (on : On G X) (hu : A.units + 64 < cLine) (I : L2.Inv X pins σ H s) (hs : (a == sysModules) = false) (h : H a = some (dictO a es ep)) (e : EntM G H β es kvs ∨ EntN G H β es kvs) (hk : kindOk kvs k = true) (ry : RV G H β y k) (ru : RelV y u)
    (hq : ∀ s', L2.Inv X pins σ H s' → Q (.bool (!(dGet kvs k).isSome)) s') : wpAny (model X.prog X.w) A (compareOp .NotIn u (.ref a)) Q E s := by
  rcases kind_cases hk with ⟨k', e1, e2⟩ | ⟨k', e1, e2, ⟨xs, e3⟩, e4⟩
  · obtain ⟨ks, dd, pm⟩ := dict_M on I h e e2
    have yk := keyM_kV e1 ry
    subst yk
    refine wpAny_notIn_of (kV_is ru) hs dd.mapOf ?_
    have := hq _ (I.tok (s.toks + 1))
    rcases pm.get e1 with ⟨h1, h2⟩ | ⟨d, w, h1, h2, _⟩
    · rw [h1] at this; rw [h2]; exact this
    · rw [h1] at this; rw [h2]; exact this
  · obtain ⟨ks, dd, pn⟩ := dict_N on I h e e4
    subst e3
    have ry' := ry
    simp only [RV] at ry'
    obtain ⟨b, ys, rfl, _, _⟩ := ry'
    cases ru
    refine wpAny_notIn_heap (nroom hu) ⟨nested_is on I _ _ _ _ e1 ry rfl, e2⟩ hs dd ?_
    have := hq _ (I.tok (s.toks + (nestedKind X.prog X.w).draws k'))
    rcases pn.get e1 with ⟨h1, h2⟩ | ⟨d, b', w, h1, h2, _⟩
    · rw [h1] at this; rw [h2]; exact this
    · rw [h1] at this; rw [h2]; exact this
/-- d[y], there -/
theorem dget_ok {d : D} {Q : Value → Shared → Prop} (on : On G X) (hu : A.units + 64 < cLine) (I : L2.Inv X pins σ H s) (h : H a = some (dictO a es ep)) (e : EntM G H β es kvs ∨ EntN G H β es kvs) (hk : kindOk kvs k = true) (ry : RV G H β y k) (ru : RelV y u) (hd : dGet kvs k = some d)
    (hq : ∀ z w s', L2.Inv X pins σ H s' → RelV z w → RV G H β z d → Q w s') : wpAny (model X.prog X.w) A (getItem (.ref a) u) Q E s := by
  rcases kind_cases hk with ⟨k', e1, e2⟩ | ⟨k', e1, e2, ⟨xs, e3⟩, e4⟩
  · obtain ⟨ks, dd, pm⟩ := dict_M on I h e e2
    have yk := keyM_kV e1 ry
    subst yk
    rcases pm.get e1 with ⟨h1, h2⟩ | ⟨d', w, h1, h2, z, h3, h4⟩
    · rw [h1] at hd; cases hd
    · rw [h1] at hd; cases hd
      exact wpAny_getItem_of (kV_is ru) dd.mapOf h2 (hq z w _ (I.tok _) h3 h4)
  · obtain ⟨ks, dd, pn⟩ := dict_N on I h e e4
    subst e3
    have ry' := ry
    simp only [RV] at ry'
    obtain ⟨b, ys, rfl, _, _⟩ := ry'
    cases ru
    rcases pn.get e1 with ⟨h1, h2⟩ | ⟨d', b', w, h1, h2, z, h3, h4⟩
    · rw [h1] at hd; cases hd
    · rw [h1] at hd; cases hd
      exact wpAny_getItem_heap (nroom hu) ⟨nested_is on I _ _ _ _ e1 ry rfl, e2⟩ dd h2 (hq z w _ (I.tok _) h3 h4)
/-- d.get(y, x) -/
theorem dget2_ok {x : D} {xv : V} {xu : Value} {Q : Value → Shared → Prop} (on : On G X) (hu : A.units + 64 < cLine) (I : L2.Inv X pins σ H s) (hs : (a == sysModules) = false) (h : H a = some (dictO a es ep)) (e : EntM G H β es kvs ∨ EntN G H β es kvs) (hk : kindOk kvs k = true) (ry : RV G H β y k) (ru : RelV y u)
    (rx : RV G H β xv x) (rxu : RelV xv xu) (hq : ∀ z w s', L2.Inv X pins σ H s' → RelV z w → RV G H β z ((dGet kvs k).getD x) → Q w s') : wpAny (model X.prog X.w) A (call (.builtin "dict.get") [.ref a, u, xu]) Q E s := by
  rcases kind_cases hk with ⟨k', e1, e2⟩ | ⟨k', e1, e2, ⟨xs, e3⟩, e4⟩
  · obtain ⟨ks, dd, pm⟩ := dict_M on I h e e2
    have yk := keyM_kV e1 ry
    subst yk
    rcases pm.get e1 with ⟨h1, h2⟩ | ⟨d', w, h1, h2, z, h3, h4⟩
    · refine call_meetsIn PySem.F.slot_dict_get dd.typeIs PySem.F.entry_dict_get (PySem.F.args_dict_get_3 _ _ _) (meets_dict_get_default (mixKind X.prog X.w) a (kV_is ru) hs xu) ⟨_, dd.mapOf, ?_⟩
      rw [h2]
      exact hq xv xu _ (I.tok _) rxu (by rw [h1]; exact rx)
    · refine call_meetsIn PySem.F.slot_dict_get dd.typeIs PySem.F.entry_dict_get (PySem.F.args_dict_get_3 _ _ _) (meets_dict_get_default (mixKind X.prog X.w) a (kV_is ru) hs xu) ⟨_, dd.mapOf, ?_⟩
      rw [h2]
      exact hq z w _ (I.tok _) h3 (by rw [h1]; exact h4)
  · obtain ⟨ks, dd, pn⟩ := dict_N on I h e e4
    subst e3
    have ry' := ry
    simp only [RV] at ry'
    obtain ⟨b, ys, rfl, _, _⟩ := ry'
    cases ru
    refine call_meetsIn PySem.F.slot_dict_get dd.typeIs PySem.F.entry_dict_get (PySem.F.args_dict_get_3 _ _ _) (meetsH_dict_get_default (nestedKind X.prog X.w) a b hs xu) ⟨nroom hu, k', ks, ⟨nested_is on I _ _ _ _ e1 ry rfl, e2⟩, dd, ?_⟩
    rcases pn.get e1 with ⟨h1, h2⟩ | ⟨d', b', w, h1, h2, z, h3, h4⟩
    · rw [h2]
      exact hq xv xu _ (I.tok _) rxu (by rw [h1]; exact rx)
    · rw [h2]
      exact hq z w _ (I.tok _) h3 (by rw [h1]; exact h4)
/-- the entries behind a store -/
theorem stored_M {m : Mem} {l : Nat} {h' : Heap} {t' : Nat} {ks : List (L2.Key × Value)} {kvs' : List (D × D)} (on : On G X) (I : L2.Inv X pins σ H s) (rp : Rp G H β m) (ha : β[l]? = some (a, false)) (hs : (a == sysModules) = false) (h : H a = some (dictO a es ep)) (hz : kvs'.length ≤ sizeLine)
    (dd : h'.DictOf (mixKind X.prog X.w) a ks) (sb : Heap.SameBut a s.heap h') (pm : PM G H β ks kvs') :
    ∃ es' ep', L2.Inv X pins σ (upd H a (dictO a es' ep')) { s with heap := h', toks := t' } ∧ Rp G (upd H a (dictO a es' ep')) β (m.set l (.dict kvs' false)) := by
  obtain ⟨o, es', ep', g1, g2, g3, g4, g5, g6⟩ := dd
  have x := Ext.write (H := H) (ob := dictO a es' ep') ha
  refine ⟨es', ep', d_write I (by rw [h]; exact True.intro) sb ⟨o, g1⟩ (dictO_new ⟨o, g1, g2, g3⟩), rp.write ha rfl ⟨hs, hz, es', ep', upd_same, .inl ⟨ks, ?_, ?_, g6, ?_⟩⟩⟩
  · rw [← on.P, ← on.w]; exact g4
  · rw [← on.P, ← on.w]; exact g5
  · exact Paired.mapP pm fun p q z => ⟨z.1, z.2.mono (x.tl rp) (BL.refl _)⟩
theorem stored_N {m : Mem} {l : Nat} {h' : Heap} {t' : Nat} {xs : List (NestedKey × Addr × Value)} {kvs' : List (D × D)} (on : On G X) (I : L2.Inv X pins σ H s) (rp : Rp G H β m) (ha : β[l]? = some (a, false)) (hs : (a == sysModules) = false) (h : H a = some (dictO a es ep)) (hz : kvs'.length ≤ sizeLine)
    (dd : h'.DictOfH (nestedKind X.prog X.w) a xs) (sb : Heap.SameBut a s.heap h') (pn : PN G H β xs kvs') :
    ∃ es' ep', L2.Inv X pins σ (upd H a (dictO a es' ep')) { s with heap := h', toks := t' } ∧ Rp G (upd H a (dictO a es' ep')) β (m.set l (.dict kvs' false)) := by
  obtain ⟨o, es', ep', g1, g2, g3, g4, _, g6⟩ := dd
  have x := Ext.write (H := H) (ob := dictO a es' ep') ha
  refine ⟨es', ep', d_write I (by rw [h]; exact True.intro) sb ⟨o, g1⟩ (dictO_new ⟨o, g1, g2, g3⟩), rp.write ha rfl ⟨hs, hz, es', ep', upd_same, .inr ⟨xs, ?_, g6, ?_⟩⟩⟩
  · rw [← on.P, ← on.w]; exact g4
  · exact Paired.mapP pn fun p q z => ⟨z.1, z.2.1, RV.mono (x.tl rp) (BL.refl _) _ _ z.2.2.1, z.2.2.2.mono (x.tl rp) (BL.refl _)⟩
/-- d[y] = v -/
theorem dput_ok {m : Mem} {l : Nat} {d : D} {dv : V} {du : Value} {Q : Unit → Shared → Prop} (on : On G X) (hu : A.units + 64 < cLine) (I : L2.Inv X pins σ H s) (rp : Rp G H β m) (ha : β[l]? = some (a, false)) (hs : (a == sysModules) = false) (hl : kvs.length ≤ sizeLine) (hz : (dPut kvs k d).length ≤ sizeLine) (h : H a = some (dictO a es ep)) (e : EntM G H β es kvs ∨ EntN G H β es kvs) (hk : kindOk kvs k = true) (ry : RV G H β y k) (ru : RelV y u)
    (rd : RV G H β dv d) (rdu : RelV dv du) (hq : ∀ es' ep' s', L2.Inv X pins σ (upd H a (dictO a es' ep')) s' → Rp G (upd H a (dictO a es' ep')) β (m.set l (.dict (dPut kvs k d) false)) → Q () s') : wpAny (model X.prog X.w) A (setItem (.ref a) u du) Q E s := by
  rcases kind_cases hk with ⟨k', e1, e2⟩ | ⟨k', e1, e2, ⟨xs, e3⟩, e4⟩
  · obtain ⟨ks, dd, pm⟩ := dict_M on I h e e2
    have yk := keyM_kV e1 ry
    subst yk
    refine wpAny_setItem_pairs (hsz := by rw [Paired.length pm]; exact hl) (kV_is ru) dd fun h' dd' hsb => ?_
    obtain ⟨es', ep', I', rp'⟩ := stored_M (t' := s.toks + 1) on I rp ha hs h hz dd' hsb (pm.put e1 ⟨dv, rdu, rd⟩)
    exact hq es' ep' _ I' rp'
  · obtain ⟨ks, dd, pn⟩ := dict_N on I h e e4
    subst e3
    have ry' := ry
    simp only [RV] at ry'
    obtain ⟨b, ys, rfl, _, _⟩ := ry'
    cases ru
    refine wpAny_setItem_heap (hsz := by rw [Paired.length pn]; exact hl) (nroom hu) ⟨nested_is on I _ _ _ _ e1 ry rfl, e2⟩ dd fun h' dd' hsb => ?_
    obtain ⟨es', ep', I', rp'⟩ := stored_N (t' := s.toks + (nestedKind X.prog X.w).draws k') on I rp ha hs h hz dd' hsb (pn.put e1 e2 ry ⟨dv, rdu, rd⟩)
    exact hq es' ep' _ I' rp'
end
end Mn
set_option Elab.async false
set_option linter.all false
set_option maxRecDepth 100000
set_option maxHeartbeats 1000000
/-! Mn6: further operators; readings of expressions, tests, arguments. -/
namespace Mn
open PySem L2 PySem.Spec PyProof.Rows
section
variable {G : Gx} {X : Cx}
theorem opLt_ok (on : On G X) (hu : X.A.units + 64 < cLine) : OpR X (compareOp .Lt) (rO2 G opLt) := by
  intro pins s σ H x y v u Q I rx ry ⟨β, m, a, b, rp, ra, rb, h⟩
  unfold opLt at h
  split at h
  · simp only [RV] at ra rb; subst ra rb
    exact op_lt pins s σ H _ _ v u Q I rx ry ⟨_, _, rfl, rfl, Post.bl h rp⟩
  · simp only [RV] at ra rb; subst ra rb
    exact op_lt_str pins s σ H _ _ v u Q I rx ry ⟨_, _, rfl, rfl, Post.bl h rp⟩
  · rename_i xs ys
    unfold ltT at h
    split at h
    · rename_i c
      have e1 := pure_rd (m := m) 12 (.tup xs) c.1
      have e2 := pure_rd (m := m) 12 (.tup ys) c.2.1
      have d1 := on.K ▸ rd_dp rp _ _ _ _ e1 ra
      have d2 := on.K ▸ rd_dp rp _ _ _ _ e2 rb
      obtain ⟨as, r1⟩ := Dp.reads I _ _ _ d1 rx
      obtain ⟨bs, r2⟩ := Dp.reads I _ _ _ d2 ry
      have k1 := (rd_ok 12 _ _ e1).2
      refine comp_run _ _ X.A s v u as bs r1 r2 (rd_ok 12 _ _ e1).1 (rd_ok 12 _ _ e2).1 c.2.2 (by omega) X.prog X.w _ _ ?_
      exact ⟨.bl _, H, I, rfl, Post.bl h rp⟩
    · exact h.elim
  · exact h.elim
theorem opLe_ok (on : On G X) : OpR X (compareOp .LtE) (rO2 G opLe) := by
  intro pins s σ H x y v u Q I rx ry ⟨β, m, a, b, rp, ra, rb, h⟩
  unfold opLe at h
  split at h
  · simp only [RV] at ra rb; subst ra rb
    exact op_le pins s σ H _ _ v u Q I rx ry ⟨_, _, rfl, rfl, Post.bl h rp⟩
  · exact h.elim
theorem opGt_ok (on : On G X) : OpR X (compareOp .Gt) (rO2 G opGt) := by
  intro pins s σ H x y v u Q I rx ry ⟨β, m, a, b, rp, ra, rb, h⟩
  unfold opGt at h
  split at h
  · simp only [RV] at ra rb; subst ra rb
    exact op_gt pins s σ H _ _ v u Q I rx ry ⟨_, _, rfl, rfl, Post.bl h rp⟩
  · exact h.elim
theorem opGe_ok (on : On G X) : OpR X (compareOp .GtE) (rO2 G opGe) := by
  intro pins s σ H x y v u Q I rx ry ⟨β, m, a, b, rp, ra, rb, h⟩
  unfold opGe at h
  split at h
  · simp only [RV] at ra rb; subst ra rb
    exact op_ge pins s σ H _ _ v u Q I rx ry ⟨_, _, rfl, rfl, Post.bl h rp⟩
  · exact h.elim
theorem rv_non {H : Hp} {β : List Pl} {x : V} {d : D} (r : RV G H β x d) : decide (x = .non) = decide (d = .non) := by
  cases d <;> simp only [RV] at r
  · subst r; simp
  · subst r; simp
  · subst r; simp
  · subst r; simp
  · obtain ⟨a, xs, rfl, _⟩ := r; simp
  · obtain ⟨a, xs, rfl, _⟩ := r; simp
  · obtain ⟨a, f, rfl, _⟩ := r; simp
  · obtain ⟨a, rfl, _⟩ := r; simp
theorem opIs_ok (on : On G X) : OpR X (compareOp .Is) (rO2 G opIs) := by
  intro pins s σ H x y v u Q I rx ry ⟨β, m, a, b, rp, ra, rb, h⟩
  unfold opIs at h
  split at h
  · simp only [RV] at rb; subst rb
    exact op_isN pins s σ H _ _ v u Q I rx ry ⟨rfl, by rw [rv_non ra]; exact Post.bl h rp⟩
  · simp only [RV] at ra rb; subst ra rb
    exact op_isBl pins s σ H _ _ v u Q I rx ry ⟨_, _, rfl, rfl, Post.bl h rp⟩
  · exact h.elim
theorem opIsNot_ok (on : On G X) : OpR X (compareOp .IsNot) (rO2 G opIsNot) := by
  intro pins s σ H x y v u Q I rx ry ⟨β, m, a, b, rp, ra, rb, h⟩
  unfold opIsNot at h
  split at h
  · simp only [RV] at rb; subst rb
    exact op_notN pins s σ H _ _ v u Q I rx ry ⟨rfl, by rw [rv_non ra]; exact Post.bl h rp⟩
  · simp only [RV] at ra rb; subst ra rb
    exact op_notBl pins s σ H _ _ v u Q I rx ry ⟨_, _, rfl, rfl, Post.bl h rp⟩
  · exact h.elim
/-! ### in -/
theorem pures_mapM {m : Mem} {n : Nat} {ds : List D} (h : pureDs n ds = true) : ds.mapM (rd m n) = some (toPys ds) := pure_rds n ds h
theorem eqv_any {n : Nat} {a : D} (ha : pureD n a = true) : ∀ {k : Nat} {xs : List D}, pureDs k xs = true → (xs.any fun z => eqv z a) = ((toPys xs).any fun z => PyData.eqv z (toPy a))
  | k, [], _ => rfl
  | k, x :: xs, h => by
    have h' : pureD k x = true ∧ pureDs k xs = true := by simpa [pureDs] using h
    simp only [List.any_cons, toPys, eqv_py k n x a h'.1 ha, eqv_any ha h'.2]
inductive InP (m : Mem) (a c : D) (k : Bool) : Prop
  | str {t s : Str} {x : Nat} : c = .str t → a = .str s → s.cps.toList = [x] → k = decide (x ∈ t.cps.toList) → InP m a c k
  | dict {l : Nat} {kvs : List (D × D)} {lk : Bool} : c = .loc l → m[l]? = some (.dict kvs lk) → kindOk kvs a = true → k = (dGet kvs a).isSome → InP m a c k
  | list {l : Nat} {xs : List D} {x : PyData} {ys : List PyData} : c = .loc l → m[l]? = some (.lst xs) → rd m 12 a = some x → xs.mapM (rd m 11) = some ys → k = (ys.any fun z => PyData.eqv z x) → InP m a c k
  | tup {xs : List D} {x : PyData} {ys : List PyData} : c = .tup xs → rd m 12 a = some x → xs.mapM (rd m 11) = some ys → k = (ys.any fun z => PyData.eqv z x) → InP m a c k
theorem inM_p {m : Mem} {a c : D} {k : Bool} (h : inM m a c = some k) : InP m a c k := by
  unfold inM at h
  split at h
  · split at h
    · split at h
      · rename_i hx
        simp only [Option.some.injEq] at h
        exact .str rfl rfl hx h.symm
      · cases h
    · cases h
  · split at h
    · rename_i hm
      split at h
      · rename_i hk
        simp only [Option.some.injEq] at h
        exact .dict rfl hm hk h.symm
      · cases h
    · rename_i hm
      split at h
      · rename_i hc
        simp only [Option.some.injEq] at h
        exact .list rfl hm (pure_rd 12 a hc.1) (pures_mapM hc.2) (by rw [← h]; exact eqv_any hc.1 hc.2)
      · split at h
        · rename_i e1 e2
          simp only [Option.some.injEq] at h
          exact .list rfl hm e1 e2 h.symm
        · cases h
    · cases h
  · split at h
    · rename_i hc
      simp only [Option.some.injEq] at h
      exact .tup rfl (pure_rd 12 a hc.1) (pures_mapM hc.2) (by rw [← h]; exact eqv_any hc.1 hc.2)
    · cases h
  · cases h
theorem opIn_ok (on : On G X) (hu : X.A.units + 65 < cLine) : OpR X (compareOp .In) (rO2 G opIn) := by
  intro pins s σ H x y v u Q I rx ry ⟨β, m, a, b, rp, ra, rb, h⟩
  unfold opIn at h
  cases e : inM m a b with
  | none => rw [e] at h; exact h.elim
  | some k =>
    rw [e] at h
    have hb := Post.bl h rp
    cases inM_p e with
    | str e1 e2 e3 e4 =>
      rename_i t s' c
      subst e1 e2 e4
      simp only [RV] at ra rb; subst ra rb
      obtain ⟨⟨l⟩⟩ := s'
      simp only at e3
      subst e3
      exact op_in_sign pins s σ H _ _ v u Q I rx ry ⟨_, _, rfl, rfl, hb⟩
    | dict e1 e2 e3 e4 =>
      subst e1 e4
      obtain ⟨p, es, ep, rfl, _, hs, _, h2, h3⟩ := rp.dict e2 rb
      cases ry
      exact din_ok on (by omega) I hs h2 h3 e3 ra rx fun s' I' => ⟨.bl _, H, I', rfl, hb⟩
    | list e1 e2 e3 e4 e5 =>
      rename_i l xs x' ys
      subst e1 e5
      have r2 : rd m 12 (.loc l) = some (.list ys) := by simp [rd, e2, e4]
      exact op_inD hu pins s σ H _ _ v u Q I rx ry ⟨_, _, on.K ▸ rd_dp rp _ _ _ _ e3 ra, on.K ▸ rd_dp rp _ _ _ _ r2 rb, rd_shaped (by decide) e3, rd_shaped (by decide) r2, hb⟩
    | tup e1 e3 e4 e5 =>
      rename_i xs x' ys
      subst e1 e5
      have r2 : rd m 12 (.tup xs) = some (.tuple ys) := by
        simp only [rd, Option.map_eq_some_iff]
        exact ⟨_, e4, rfl⟩
      have d1 := on.K ▸ rd_dp rp _ _ _ _ e3 ra
      have d2 := on.K ▸ rd_dp rp _ _ _ _ r2 rb
      obtain ⟨as, r1⟩ := Dp.reads I _ _ _ d1 rx
      obtain ⟨bs, r3⟩ := Dp.reads I _ _ _ d2 ry
      exact SeqAt.in_tuple_reads r3 r1 (SeqAt.canLay_of_shaped (d := .tuple ys) (rd_shaped (by decide) r2)) (SeqAt.canLay_of_shaped (rd_shaped (by decide) e3)) (room_in_shaped (rd_shaped (by decide) e3) hu) ⟨.bl _, H, I, rfl, hb⟩
theorem opNotIn_ok (on : On G X) (hu : X.A.units + 65 < cLine) : OpR X (compareOp .NotIn) (rO2 G opNotIn) := by
  intro pins s σ H x y v u Q I rx ry ⟨β, m, a, b, rp, ra, rb, h⟩
  unfold opNotIn at h
  cases e : inM m a b with
  | none => rw [e] at h; exact h.elim
  | some k =>
    rw [e] at h
    have hb := Post.bl h rp
    cases inM_p e with
    | str e1 e2 e3 e4 =>
      rename_i t s' c
      subst e1 e2 e4
      simp only [RV] at ra rb; subst ra rb
      obtain ⟨⟨l⟩⟩ := s'
      simp only at e3
      subst e3
      exact op_notIn_sign pins s σ H _ _ v u Q I rx ry ⟨_, _, rfl, rfl, hb⟩
    | dict e1 e2 e3 e4 =>
      subst e1 e4
      obtain ⟨p, es, ep, rfl, _, hs, _, h2, h3⟩ := rp.dict e2 rb
      cases ry
      exact dnotin_ok on (by omega) I hs h2 h3 e3 ra rx fun s' I' => ⟨.bl _, H, I', rfl, hb⟩
    | list e1 e2 e3 e4 e5 =>
      rename_i l xs x' ys
      subst e1 e5
      have r2 : rd m 12 (.loc l) = some (.list ys) := by simp [rd, e2, e4]
      exact op_notInD hu pins s σ H _ _ v u Q I rx ry ⟨_, _, on.K ▸ rd_dp rp _ _ _ _ e3 ra, on.K ▸ rd_dp rp _ _ _ _ r2 rb, rd_shaped (by decide) e3, rd_shaped (by decide) r2, hb⟩
    | tup e1 e3 e4 e5 =>
      rename_i xs x' ys
      subst e1 e5
      have r2 : rd m 12 (.tup xs) = some (.tuple ys) := by
        simp only [rd, Option.map_eq_some_iff]
        exact ⟨_, e4, rfl⟩
      have d1 := on.K ▸ rd_dp rp _ _ _ _ e3 ra
      have d2 := on.K ▸ rd_dp rp _ _ _ _ r2 rb
      obtain ⟨as, r1⟩ := Dp.reads I _ _ _ d1 rx
      obtain ⟨bs, r3⟩ := Dp.reads I _ _ _ d2 ry
      exact SeqAt.notIn_tuple_reads r3 r1 (SeqAt.canLay_of_shaped (d := .tuple ys) (rd_shaped (by decide) r2)) (SeqAt.canLay_of_shaped (rd_shaped (by decide) e3)) (room_in_shaped (rd_shaped (by decide) e3) hu) ⟨.bl _, H, I, rfl, hb⟩
end
/-! ### readings -/
theorem PE.imp {X : Cx} {e : Expr} {t t' : TE} (h : PE X e t) (f : ∀ σ H Q, t' σ H Q → t σ H Q) : PE X e t' := ⟨fun pins s σ H Q I x => h.run pins s σ H Q I (f σ H Q x)⟩
theorem PT.imp {X : Cx} {e : Expr} {t t' : TT} (h : PT X e t) (f : ∀ σ H Q, t' σ H Q → t σ H Q) : PT X e t' := ⟨fun pins s σ H Q I x => h.run pins s σ H Q I (f σ H Q x)⟩
theorem PW.imp {X : Cx} {e : Expr} {t t' : TT} (h : PW X e t) (f : ∀ σ H Q, t' σ H Q → t σ H Q) : PW X e t' := ⟨fun w pins s σ H Q I x => h.run w pins s σ H Q I (f σ H Q x)⟩
theorem PA.imp {X : Cx} {e : List Expr} {t t' : TA} (h : PA X e t) (f : ∀ σ H Q, t' σ H Q → t σ H Q) : PA X e t' := ⟨fun p pins s σ H Q I x => h.run p pins s σ H Q I (f σ H Q x)⟩
theorem PS.imp {X : Cx} {e : Stmt} {t t' : TS} (h : PS X e t) (f : ∀ D σ H, t' D σ H → t D σ H) : PS X e t' := ⟨fun pins s σ H D I x => h.run pins s σ H D I (f D σ H x)⟩
theorem PSs.imp {X : Cx} {e : List Stmt} {t t' : TS} (h : PSs X e t) (f : ∀ D σ H, t' D σ H → t D σ H) : PSs X e t' := ⟨fun pins s σ H D I x => h.run pins s σ H D I (f D σ H x)⟩
/-- the reading of a test -/
def tT (G : Gx) (W : WX) (fe : FE) (d : DenT) : TT := fun σ H Q => ∃ β m ρ, Rp G H β m ∧ RS G H β σ ρ ∧ GoodO G (fun c d H' => W c d σ H') H β (fun b _ H' _ => Q b H') (d fe ρ m)
/-- the reading of arguments -/
def tA (G : Gx) (W : WX) (fe : FE) (d : DenA) : TA := fun σ H Q => ∃ β m ρ, Rp G H β m ∧ RS G H β σ ρ ∧ GoodO G (fun c d H' => W c d σ H') H β (fun ds _ H' β' => ∀ vs, RVs G H' β' vs ds → Q vs H') (d fe ρ m)
def xVar (i : Nat) : Den := fun _ ρ m => match ρ[i]? with
  | some (some v) => .ok v m
  | _ => .bad
def xLit (d : D) : Den := fun _ _ m => .ok d m
def xBin (f : Op2) (a b : Den) : Den := fun fe ρ m => (a fe ρ m).bind fun x m1 => (b fe ρ m1).bind fun y m2 => .ofO (f x y m2)
def xNeg (a : Den) : Den := fun fe ρ m => (a fe ρ m).bind fun x m1 => match x with
  | .int i => .ok (.int (-i)) m1
  | _ => .bad
def xGc (a : Den) : Den := fun fe ρ m => gcO m (a fe ρ m)
/-- a value's truth -/
def truth (m : Mem) : D → Option Bool
  | .non => some false
  | .bl b => some b
  | .int i => some (i != 0)
  | .str s => if s.length ≤ sizeLine then some ((s.length : Int) != 0) else none
  | .tup xs => some (!xs.isEmpty)
  | .seq xs => some (!xs.isEmpty)
  | .loc l => match m[l]? with
    | some (.lst xs) => some (!xs.isEmpty)
    | _ => none
  | .fn _ => none
def tVal (a : Den) : DenT := fun fe ρ m => (a fe ρ m).bind fun x m1 => match truth m1 x with
  | some b => .ok b m1
  | none => .bad
def tNt (a : DenT) : DenT := fun fe ρ m => (a fe ρ m).bind fun b m1 => .ok (!b) m1
def tAn (a b : DenT) : DenT := fun fe ρ m => (a fe ρ m).bind fun x m1 => if x = true then b fe ρ m1 else .ok false m1
def tOo (a b : DenT) : DenT := fun fe ρ m => (a fe ρ m).bind fun x m1 => if x = true then .ok true m1 else b fe ρ m1
def tGc (a : DenT) : DenT := fun fe ρ m => gcB m (a fe ρ m)
/-- and, or as values: the first one a truth value -/
def xAnd (a b : Den) : Den := fun fe ρ m => (a fe ρ m).bind fun x m1 => match x with
  | .bl true => b fe ρ m1
  | .bl false => .ok (.bl false) m1
  | _ => .bad
def xOr (a b : Den) : Den := fun fe ρ m => (a fe ρ m).bind fun x m1 => match x with
  | .bl false => b fe ρ m1
  | .bl true => .ok (.bl true) m1
  | _ => .bad
def xNot (a : Den) : Den := fun fe ρ m => (a fe ρ m).bind fun x m1 => match x with
  | .bl b => .ok (.bl (!b)) m1
  | _ => .bad
def xIf (t : DenT) (a b : Den) : Den := fun fe ρ m => (t fe ρ m).bind fun x m1 => if x = true then a fe ρ m1 else b fe ρ m1
def aNil : DenA := fun _ _ m => .ok [] m
def aCons (a : Den) (r : DenA) : DenA := fun fe ρ m => (a fe ρ m).bind fun x m1 => (r fe ρ m1).bind fun xs m2 => .ok (x :: xs) m2
def xTup (a : DenA) : Den := fun fe ρ m => (a fe ρ m).bind fun xs m1 => if xs.length ≤ sizeLine then .ok (.tup xs) m1 else .bad
def xLst (a : DenA) : Den := fun fe ρ m => (a fe ρ m).bind fun xs m1 => if xs.length ≤ sizeLine then .ok (.loc m1.length) (m1 ++ [.lst xs]) else .bad
/-- a chain of two comparisons -/
def xChain (f g : Op2) (a b c : Den) : Den := fun fe ρ m => (a fe ρ m).bind fun x m1 => (b fe ρ m1).bind fun y m2 => (Out.ofO (f x y m2)).bind fun z m3 => match z with
  | .bl true => (c fe ρ m3).bind fun w m4 => .ofO (g y w m4)
  | .bl false => .ok (.bl false) m3
  | _ => .bad
section
variable {G : Gx} {X : Cx} {W : WX} {fe : FE} {a b c : Expr} {da db dc : Den} {pos : Pos}
theorem GoodO.e {W : XK} {H : Hp} {β : List Pl} {Q : VK} {r : Out D} (h : GoodO G W H β (fun v _ H' β' => ∀ u, RV G H' β' u v → Q u H') r) : GoodE G W H β Q r := GoodE.iff.mpr h
theorem pv_ok {i : Nat} {x : Str} (h : PE X (.Name x pos) (tVar i)) : PE X (.Name x pos) (tE G W fe (xVar i)) := PE.imp h fun σ H Q ⟨β, m, ρ, rp, rs, g⟩ => by
  unfold xVar at g
  split at g
  · rename_i d e
    obtain ⟨v, e1, r⟩ := rs.at_ i d e
    exact ⟨v, e1, Post.same g rp r⟩
  · exact g.elim
theorem lit_ok {v : V} {d : D} (hd : ∀ H β, RV G H β v d) (h : PE X a (tC v)) : PE X a (tE G W fe (xLit d)) := PE.imp h fun σ H Q ⟨β, m, ρ, rp, rs, g⟩ => Post.same g rp (hd H β)
/-- two expressions, then an operation -/
theorem bin_red {f : Op2} {r : R2} (hr : ∀ x y H Q, rO2 G f x y H Q → r x y H Q) {σ : L2.St} {H : Hp} {Q : VK} (h : tE G W fe (xBin f da db) σ H Q) : tOp r (tE G W fe da) (tE G W fe db) σ H Q := by
  obtain ⟨β, m, ρ, rp, rs, g⟩ := h
  refine ⟨β, m, ρ, rp, rs, (GoodO.mono (GoodO.bind (GoodE.iff.mp g)) fun x m1 H1 β1 e1 rp1 g1 u ru => ?_).e⟩
  refine ⟨β1, m1, ρ, rp1, rs.ext rp e1, (GoodO.mono (GoodO.bind g1) fun y m2 H2 β2 e2 rp2 g2 w rw' => ?_).e⟩
  exact hr _ _ _ _ ⟨β2, m2, x, y, rp2, RV.mono (e2.tl rp1) e2.bl _ _ ru, rw', GoodE.ofO (g2.e)⟩
theorem xbin_ok {op : Operator} {f : Op2} (ho : OpR X (binaryOp op) (rO2 G f)) (ha : PE X a (tE G W fe da)) (hb : PE X b (tE G W fe db)) : PE X (.BinOp a op b pos) (tE G W fe (xBin f da db)) :=
  PE.imp (pe_op ho ha hb) fun _ _ _ h => bin_red (fun _ _ _ _ x => x) h
theorem xcmp_ok {op : CmpOp} {f : Op2} (ho : OpR X (compareOp op) (rO2 G f)) (ha : PE X a (tE G W fe da)) (hb : PE X b (tE G W fe db)) (hm : behindInMarks op b = false) : PE X (.Compare a [op] [b] pos) (tE G W fe (xBin f da db)) :=
  PE.imp (pe_cmpR ho ha hb hm) fun _ _ _ h => bin_red (fun _ _ _ _ x => x) h
theorem xneg_ok (ha : PE X a (tE G W fe da)) : PE X (.UnaryOp .USub a pos) (tE G W fe (xNeg da)) := PE.imp (pe_un un_neg ha) fun σ H Q h => by
  obtain ⟨β, m, ρ, rp, rs, g⟩ := h
  refine ⟨β, m, ρ, rp, rs, (GoodO.mono (GoodO.bind (GoodE.iff.mp g)) fun x m1 H1 β1 e1 rp1 g1 u ru => ?_).e⟩
  cases x with
  | int i => simp only [RV] at ru; subst ru; exact ⟨i, rfl, Post.int (GoodE.iff.mpr g1) rp1⟩
  | _ => exact False.elim g1
theorem xgc_ok (ha : PE X a (tE G W fe da)) : PE X a (tE G W fe (xGc da)) := PE.imp ha fun σ H Q ⟨β, m, ρ, rp, rs, g⟩ => ⟨β, m, ρ, rp, rs, GoodE.gc rp g⟩
theorem tgc_ok {dt : DenT} (ha : PT X a (tT G W fe dt)) : PT X a (tT G W fe (tGc dt)) := PT.imp ha fun σ H Q ⟨β, m, ρ, rp, rs, g⟩ => ⟨β, m, ρ, rp, rs, GoodO.gcB rp g⟩
/-- a value's truth, as a test -/
theorem tval_ok (on : On G X) (ha : PE X a (tE G W fe da)) (he : ∀ whole, PySem.isTrue a X.env whole = (do let v ← whole; standAt a.pos; holding [v] (truthy v))) : PT X a (tT G W fe (tVal da)) := PT.imp (pt_truth ha he) fun σ H Q h => by
  obtain ⟨β, m, ρ, rp, rs, g⟩ := h
  refine ⟨β, m, ρ, rp, rs, (GoodO.mono (GoodO.bind g) fun x m1 H1 β1 e1 rp1 g1 u ru => ?_).e⟩
  have hk : X.K = G.K := on.K
  cases e : truth m1 x with
  | none => rw [e] at g1; exact False.elim g1
  | some k =>
    rw [e] at g1
    refine ⟨k, ?_, g1 β1 H1 Ext.refl rp1⟩
    cases x with
    | non => simp only [RV] at ru; subst ru; simp only [truth, Option.some.injEq] at e; exact e.symm
    | bl b => simp only [RV] at ru; subst ru; simp only [truth, Option.some.injEq] at e; exact e.symm
    | int b => simp only [RV] at ru; subst ru; simp only [truth, Option.some.injEq] at e; exact e.symm
    | str b =>
      simp only [RV] at ru; subst ru; simp only [truth] at e
      split at e
      · rename_i c; simp only [Option.some.injEq] at e; exact ⟨c, e.symm⟩
      · cases e
    | tup ds =>
      simp only [RV] at ru; obtain ⟨p, xs, rfl, h1, h2⟩ := ru
      simp only [truth, Option.some.injEq] at e
      refine .inr (.inl ⟨xs, hk ▸ h1.sq, ?_⟩)
      have := h2.length
      rw [← e]
      cases xs <;> cases ds <;> simp_all
    | seq ds =>
      simp only [RV] at ru; obtain ⟨p, xs, rfl, h1, h2⟩ := ru
      simp only [truth, Option.some.injEq] at e
      refine .inl ⟨xs, hk ▸ h1.sq, ?_⟩
      have := h2.length
      rw [← e]
      cases xs <;> cases ds <;> simp_all
    | loc l =>
      simp only [truth] at e
      split at e
      · rename_i ds hm
        simp only [Option.some.injEq] at e
        obtain ⟨p, xs, rfl, _, h1, h2⟩ := rp1.lst hm ru
        refine .inl ⟨xs, SqL.of h1, ?_⟩
        have := h2.length
        rw [← e]
        cases xs <;> cases ds <;> simp_all
      · cases e
    | fn n => simp [truth] at e
theorem tnt_ok {dt : DenT} (ha : PT X a (tT G W fe dt)) : PT X (.UnaryOp .Not a pos) (tT G W fe (tNt dt)) := PT.imp (pt_not ha) fun σ H Q h => by
  obtain ⟨β, m, ρ, rp, rs, g⟩ := h
  exact ⟨β, m, ρ, rp, rs, GoodO.mono (GoodO.bind g) fun x m1 H1 β1 e1 rp1 g1 => g1 β1 H1 Ext.refl rp1⟩
variable {dt du : DenT} {rest : List Expr}
theorem tan1_ok (ha : PT X a (tT G W fe dt)) : PW X (.BoolOp .And [a] pos) (tT G W fe dt) := pw_and1 ha
theorem too1_ok (ha : PT X a (tT G W fe dt)) : PW X (.BoolOp .Or [a] pos) (tT G W fe dt) := pw_or1 ha
theorem tan_ok (ha : PT X a (tT G W fe dt)) (hb : PW X (.BoolOp .And (b :: rest) pos) (tT G W fe du)) : PW X (.BoolOp .And (a :: b :: rest) pos) (tT G W fe (tAn dt du)) := PW.imp (pw_and ha hb) fun σ H Q h => by
  obtain ⟨β, m, ρ, rp, rs, g⟩ := h
  refine ⟨β, m, ρ, rp, rs, GoodO.mono (GoodO.bind g) fun x m1 H1 β1 e1 rp1 g1 => ?_⟩
  cases x with
  | true => exact ⟨β1, m1, ρ, rp1, rs.ext rp e1, g1⟩
  | false => exact g1 β1 H1 Ext.refl rp1
theorem too_ok (ha : PT X a (tT G W fe dt)) (hb : PW X (.BoolOp .Or (b :: rest) pos) (tT G W fe du)) : PW X (.BoolOp .Or (a :: b :: rest) pos) (tT G W fe (tOo dt du)) := PW.imp (pw_or ha hb) fun σ H Q h => by
  obtain ⟨β, m, ρ, rp, rs, g⟩ := h
  refine ⟨β, m, ρ, rp, rs, GoodO.mono (GoodO.bind g) fun x m1 H1 β1 e1 rp1 g1 => ?_⟩
  cases x with
  | false => exact ⟨β1, m1, ρ, rp1, rs.ext rp e1, g1⟩
  | true => exact g1 β1 H1 Ext.refl rp1
theorem xand_ok (ha : PE X a (tE G W fe da)) (hb : PE X (.BoolOp .And (b :: rest) pos) (tE G W fe db)) : PE X (.BoolOp .And (a :: b :: rest) pos) (tE G W fe (xAnd da db)) := PE.imp (pe_and ha hb) fun σ H Q h => by
  obtain ⟨β, m, ρ, rp, rs, g⟩ := h
  refine ⟨β, m, ρ, rp, rs, (GoodO.mono (GoodO.bind (GoodE.iff.mp g)) fun x m1 H1 β1 e1 rp1 g1 u ru => ?_).e⟩
  cases x with
  | bl k =>
    simp only [RV] at ru; subst ru
    cases k with
    | true => exact ⟨true, rfl, β1, m1, ρ, rp1, rs.ext rp e1, g1.e⟩
    | false => exact ⟨false, rfl, Post.bl (GoodE.iff.mpr g1) rp1⟩
  | _ => exact False.elim g1
theorem xor_ok (ha : PE X a (tE G W fe da)) (hb : PE X (.BoolOp .Or (b :: rest) pos) (tE G W fe db)) : PE X (.BoolOp .Or (a :: b :: rest) pos) (tE G W fe (xOr da db)) := PE.imp (pe_or ha hb) fun σ H Q h => by
  obtain ⟨β, m, ρ, rp, rs, g⟩ := h
  refine ⟨β, m, ρ, rp, rs, (GoodO.mono (GoodO.bind (GoodE.iff.mp g)) fun x m1 H1 β1 e1 rp1 g1 u ru => ?_).e⟩
  cases x with
  | bl k =>
    simp only [RV] at ru; subst ru
    cases k with
    | false => exact ⟨false, rfl, β1, m1, ρ, rp1, rs.ext rp e1, g1.e⟩
    | true => exact ⟨true, rfl, Post.bl (GoodE.iff.mpr g1) rp1⟩
  | _ => exact False.elim g1
theorem xnot_ok (ha : PE X a (tE G W fe da)) : PE X (.UnaryOp .Not a pos) (tE G W fe (xNot da)) := PE.imp (pe_not ha) fun σ H Q h => by
  obtain ⟨β, m, ρ, rp, rs, g⟩ := h
  refine ⟨β, m, ρ, rp, rs, (GoodO.mono (GoodO.bind (GoodE.iff.mp g)) fun x m1 H1 β1 e1 rp1 g1 u ru => ?_).e⟩
  cases x with
  | bl k => simp only [RV] at ru; subst ru; exact ⟨k, rfl, Post.bl (GoodE.iff.mpr g1) rp1⟩
  | _ => exact False.elim g1
theorem xif_ok (hc : PT X c (tT G W fe dt)) (ha : PE X a (tE G W fe da)) (hb : PE X b (tE G W fe db)) : PE X (.IfExp c a b pos) (tE G W fe (xIf dt da db)) := PE.imp (pe_ifExp hc ha hb) fun σ H Q h => by
  obtain ⟨β, m, ρ, rp, rs, g⟩ := h
  refine ⟨β, m, ρ, rp, rs, GoodO.mono (GoodO.bind (GoodE.iff.mp g)) fun x m1 H1 β1 e1 rp1 g1 => ?_⟩
  cases x with
  | true => exact ⟨β1, m1, ρ, rp1, rs.ext rp e1, g1.e⟩
  | false => exact ⟨β1, m1, ρ, rp1, rs.ext rp e1, g1.e⟩
variable {es : List Expr} {dA : DenA}
theorem anil_ok : PA X [] (tA G W fe aNil) := PA.imp pa_nil fun σ H Q ⟨β, m, ρ, rp, rs, g⟩ => g β H Ext.refl rp [] RVs.nil
theorem acons_ok (ha : PE X a (tE G W fe da)) (hr : PA X es (tA G W fe dA)) (hs : starEach (a :: es) X.env = (false, eval a X.env) :: starEach es X.env) : PA X (a :: es) (tA G W fe (aCons da dA)) := PA.imp (pa_cons ha hr hs) fun σ H Q h => by
  obtain ⟨β, m, ρ, rp, rs, g⟩ := h
  refine ⟨β, m, ρ, rp, rs, (GoodO.mono (GoodO.bind g) fun x m1 H1 β1 e1 rp1 g1 u ru => ?_).e⟩
  refine ⟨β1, m1, ρ, rp1, rs.ext rp e1, GoodO.mono (GoodO.bind g1) fun xs m2 H2 β2 e2 rp2 g2 us rus => ?_⟩
  exact g2 β2 H2 Ext.refl rp2 _ (RVs.cons (RV.mono (e2.tl rp1) e2.bl _ _ ru) rus)
theorem xtup_ok {k : Nat} (h : PA X es (tA G W fe dA)) : PE X (.Tuple es k pos) (tE G W fe (xTup dA)) := PE.imp (pe_tupF h) fun σ H Q h => by
  obtain ⟨β, m, ρ, rp, rs, g⟩ := h
  refine ⟨β, m, ρ, rp, rs, GoodO.mono (GoodO.bind (GoodE.iff.mp g)) fun xs m1 H1 β1 e1 rp1 g1 us rus => ?_⟩
  split at g1
  · rename_i c
    exact ⟨by rw [rus.length]; exact c, fun p o hp ho => Post.tup (GoodE.iff.mpr g1) rp1 rus hp ho⟩
  · exact False.elim g1
theorem xlst_ok (h : PA X es (tA G W fe dA)) : PE X (.List es pos) (tE G W fe (xLst dA)) := PE.imp (pe_lst h) fun σ H Q h => by
  obtain ⟨β, m, ρ, rp, rs, g⟩ := h
  refine ⟨β, m, ρ, rp, rs, GoodO.mono (GoodO.bind (GoodE.iff.mp g)) fun xs m1 H1 β1 e1 rp1 g1 us rus => ?_⟩
  split at g1
  · rename_i c
    exact ⟨by rw [rus.length]; exact c, fun p hp => Post.lst (GoodE.iff.mpr g1) rp1 rus hp⟩
  · exact False.elim g1
theorem xchain_ok {op op' : CmpOp} {f f' : Op2} (ho : OpR X (compareOp op) (rO2 G f)) (ho' : OpR X (compareOp op') (rO2 G f')) (ha : PE X a (tE G W fe da)) (hb : PE X b (tE G W fe db)) (hc : PE X c (tE G W fe dc))
    (hm : lastMarks [op, op'] [b, c] = false) : PE X (.Compare a [op, op'] [b, c] pos) (tE G W fe (xChain f f' da db dc)) := PE.imp (pe_chain ho ho' ha hb hc hm) fun σ H Q h => by
  obtain ⟨β, m, ρ, rp, rs, g⟩ := h
  refine ⟨β, m, ρ, rp, rs, (GoodO.mono (GoodO.bind (GoodE.iff.mp g)) fun x m1 H1 β1 e1 rp1 g1 u ru => ?_).e⟩
  refine ⟨β1, m1, ρ, rp1, rs.ext rp e1, (GoodO.mono (GoodO.bind g1) fun y m2 H2 β2 e2 rp2 g2 w rw' => ?_).e⟩
  refine ⟨β2, m2, x, y, rp2, RV.mono (e2.tl rp1) e2.bl _ _ ru, rw', ?_⟩
  have g3 := GoodO.bind g2
  cases e : f x y m2 with
  | none => rw [e] at g3; exact g3
  | some p =>
    rw [e] at g3
    obtain ⟨z, m3⟩ := p
    intro uz β3 H3 e3 rp3 rz
    have g4 := g3 β3 H3 e3 rp3
    cases z with
    | bl k =>
      simp only [RV] at rz; subst rz
      cases k with
      | true =>
        refine ⟨true, rfl, β3, m3, ρ, rp3, (rs.ext rp e1 |>.ext rp1 e2).ext rp2 e3, (GoodO.mono (GoodO.bind g4) fun w4 m4 H4 β4 e4 rp4 g5 uw ruw => ?_).e⟩
        exact ⟨β4, m4, y, w4, rp4, RV.mono (e4.tl rp3) e4.bl _ _ (RV.mono (e3.tl rp2) e3.bl _ _ rw'), ruw, GoodE.ofO (g5.e)⟩
      | false => exact ⟨false, rfl, Post.bl (GoodE.iff.mpr g4) rp3⟩
    | _ => exact False.elim g4
end
end Mn
set_option Elab.async false
set_option linter.all false
set_option maxRecDepth 100000
set_option maxHeartbeats 1000000
/-! Mn7: built-ins and methods. -/
namespace Mn
open PySem L2 PySem.Spec PyProof.Rows PyProof.V PySem.W PySem.Calls
abbrev OpN := List D → Mem → Option (D × Mem)
def rON (G : Gx) (f : OpN) : List V → Hp → VK → Prop := fun vs H Q => ∃ β m ds, Rp G H β m ∧ RVs G H β vs ds ∧ PostO G H β Q (f ds m)
/-- f(a, ..), f a built-in -/
def xCallF (f : OpN) (a : DenA) : Den := fun fe ρ m => (a fe ρ m).bind fun ds m1 => .ofO (f ds m1)
section
variable {G : Gx} {X : Cx} {W : WX} {fe : FE} {x : Str} {p pos : Pos} {e : Expr} {es : List Expr} {dA : DenA} {id T : String} {f : OpN}
theorem callF_red {σ : L2.St} {H : Hp} {Q : VK} (h : tE G W fe (xCallF f dA) σ H Q) : tCB (rON G f) (tA G W fe dA) σ H Q := by
  obtain ⟨β, m, ρ, rp, rs, g⟩ := h
  exact ⟨β, m, ρ, rp, rs, GoodO.mono (GoodO.bind (GoodE.iff.mp g)) fun ds m1 H1 β1 e1 rp1 g1 vs rvs => ⟨β1, m1, ds, rp1, rvs, GoodE.ofO (g1.e)⟩⟩
theorem xcallB_ok (hc : CallR X (.builtin id) (rON G f)) (hg : Gl X x) (hm : X.mg x = none) (hv : bootBuiltins x = some (.builtin id)) (ha : PA X (e :: es) (tA G W fe dA)) (hn : x ≠ "__name__") (hdb : (x == ("__debug__" : Str)) = false)
    (he : starEach (e :: es) X.env = (false, eval e X.env) :: starEach es X.env) (hpl : (backTo pos (starEach es X.env)).any (·.1) = false) : PE X (.Call (.Name x p) (e :: es) [] pos) (tE G W fe (xCallF f dA)) :=
  PE.imp (pe_callB hc hg hm hv ha hn hdb he hpl) fun _ _ _ h => callF_red h
theorem xcallTy_ok (hc : CallR X (.type T) (rON G f)) (hg : Gl X x) (hm : X.mg x = none) (hv : bootBuiltins x = some (.type T)) (ha : PA X (e :: es) (tA G W fe dA)) (hn : x ≠ "__name__") (hdb : (x == ("__debug__" : Str)) = false)
    (he : starEach (e :: es) X.env = (false, eval e X.env) :: starEach es X.env) (hpl : (backTo pos (starEach es X.env)).any (·.1) = false) : PE X (.Call (.Name x p) (e :: es) [] pos) (tE G W fe (xCallF f dA)) :=
  PE.imp (pe_callTy hc hg hm hv ha hn hdb he hpl) fun _ _ _ h => callF_red h
end
/-! ### len -/
def bLen : OpN
  | [.str s], m => if s.length ≤ sizeLine then some (.int s.length, m) else none
  | [.tup xs], m => some (.int xs.length, m)
  | [.seq xs], m => some (.int xs.length, m)
  | [.loc l], m => match m[l]? with
    | some (.lst xs) => some (.int xs.length, m)
    | some (.dict kvs _) => some (.int kvs.length, m)
    | _ => none
  | _, _ => none
section
variable {G : Gx} {X : Cx} {pins : List (Addr × Obj)} {σ : L2.St} {H : Hp} {s : Shared} {β : List Pl} {a : Addr} {es : Array DictEntry} {ep : Nat} {kvs : List (D × D)}
/-- the entries as they stand -/
abbrev PE2 (G : Gx) (H : Hp) (β : List Pl) : List DictEntry → List (D × D) → Prop := Paired fun e q => RValue G H β e.key q.1 ∧ RValue G H β e.val q.2
theorem entM_all : ∀ {es : List DictEntry} {ks : List (L2.Key × Value)} {kvs : List (D × D)}, Pairs (mixKind G.P G.w) es ks → PM G H β ks kvs → PE2 G H β es kvs
  | _, _, _, .nil, .nil => .nil
  | _, _, _, .cons h1 h2 t, .cons r q => by
    rename_i e kv es ks b kvs
    refine .cons ⟨?_, by rw [h2]; exact r.2⟩ (entM_all t q)
    have hk : keyIs kv.1 e.key = true := h1
    rcases keyIs_shape hk with ⟨i, t, e1, e2⟩ | ⟨i, t, e1, e2⟩
    · refine ⟨.int i, ⟨t, e2⟩, ?_⟩
      have r1 := r.1
      rw [e1] at r1
      cases hq : b.1 <;> rw [hq] at r1 <;> simp [keyM] at r1
      simp [RV, r1]
    · refine ⟨.str i, ⟨t, e2⟩, ?_⟩
      have r1 := r.1
      rw [e1] at r1
      cases hq : b.1 <;> rw [hq] at r1 <;> simp [keyM] at r1
      simp [RV, r1]
theorem entN_all : ∀ {es : List DictEntry} {xs : List (NestedKey × Addr × Value)} {kvs : List (D × D)}, es = xs.map (entryOfKey (nestedKind G.P G.w)) → PN G H β xs kvs → PE2 G H β es kvs
  | _, _, _, h, .nil => by subst h; exact .nil
  | _, _, _, h, .cons r q => by
    subst h
    simp only [List.map_cons]
    exact .cons ⟨⟨.ref _, rfl, r.2.2.1⟩, r.2.2.2⟩ (entN_all rfl q)
theorem ent_all (e : EntM G H β es kvs ∨ EntN G H β es kvs) : PE2 G H β es.toList kvs := by
  rcases e with ⟨ks, _, h2, _, h4⟩ | ⟨xs, h1, _, h3⟩
  · exact entM_all h2 h4
  · exact entN_all h1 h3
theorem dlen_ok {Q : Value → Shared → Prop} (on : On G X) (I : L2.Inv X pins σ H s) (hs : (a == sysModules) = false) (hl : kvs.length ≤ sizeLine) (h : H a = some (dictO a es ep)) (e : EntM G H β es kvs ∨ EntN G H β es kvs) {A : Around} {E : Value → Shared → Prop}
    (hq : ∀ t s', L2.Inv X pins σ H s' → Q (.int kvs.length t) s') : wpAny (model X.prog X.w) A (call (.builtin "len") [.ref a]) Q E s := by
  obtain ⟨o, ep, h1, h2, h3⟩ := dictO_at I h
  rw [sizeLine_eq] at hl
  rcases e with ⟨ks, e1, e2, e3, e4⟩ | ⟨xs, e1, e2, e3⟩
  · have dd : s.heap.DictOf (mixKind X.prog X.w) a ks := by
      rw [on.P, on.w]; exact ⟨o, es, ep, h1, h2, h3, e1, e2, e3⟩
    have hlen := Paired.length e4
    refine call_len_dict hs dd (by omega) ?_
    rw [hlen]
    exact hq _ _ (I.tok _)
  · have dd : s.heap.DictOfH (nestedKind X.prog X.w) a xs := by
      refine ⟨o, es, ep, h1, h2, h3, ?_, fun x hx => ?_, e2⟩
      · rw [on.P, on.w]; exact e1
      · have aux : ∀ {l1 : List (NestedKey × Addr × Value)} {l2 : List (D × D)}, PN G H β l1 l2 → x ∈ l1 → ∃ q ∈ l2, keyN q.1 = some x.1 ∧ x.1.depth ≤ 8 ∧ RV G H β (.ref x.2.1) q.1 ∧ RValue G H β x.2.2 q.2 := by
          intro l1 l2 p
          induction p with
          | nil => intro h; simp at h
          | cons r t ih =>
            intro h
            rcases List.mem_cons.mp h with rfl | h
            · exact ⟨_, List.mem_cons_self, r⟩
            · obtain ⟨q, h1, h2⟩ := ih h
              exact ⟨q, List.mem_cons_of_mem _ h1, h2⟩
        obtain ⟨q, _, r1, r2, r3, _⟩ := aux e3 hx
        exact ⟨nested_is on I q.1 x.1 _ _ r1 r3 rfl, r2⟩
    have hlen := Paired.length e3
    have dk : s.heap.DictKeyed (nestedKind X.prog X.w) a (pairsH xs) := ⟨xs, dd, rfl⟩
    have hp : (pairsH xs).length = kvs.length := by rw [pairsH_length]; exact hlen
    refine PyProof.Rows.call_len_slot (n := ((pairsH xs).length : Nat)) dk.typeIs PySem.F.slot_dict_len (fun Q' hq' => len_keyed hs dk hq') (by omega) (by omega) ?_
    rw [hp]
    exact hq _ _ (I.tok _)
end
section
variable {G : Gx} {X : Cx}
theorem bLen_ok (on : On G X) : CallR X (.builtin "len") (rON G bLen) := by
  intro pins s σ H xs us Q I r ⟨β, m, ds, rp, rv, h⟩
  unfold bLen at h
  split at h
  · obtain ⟨v, r2, rfl, q1, q2⟩ := (show ∃ x r, xs = x :: r ∧ RV G H β x _ ∧ RVs G H β r [] by simpa [RVs] using rv)
    simp only [RVs] at q2; subst q2
    simp only [RV] at q1; subst q1
    split at h
    · rename_i c
      exact call_len pins s σ H _ us Q I r ⟨_, _, rfl, ⟨c, rfl⟩, Post.int h rp⟩
    · exact h.elim
  · obtain ⟨v, r2, rfl, q1, q2⟩ := (show ∃ x r, xs = x :: r ∧ RV G H β x _ ∧ RVs G H β r [] by simpa [RVs] using rv)
    simp only [RVs] at q2; subst q2
    simp only [RV] at q1
    obtain ⟨p, ys, rfl, h1, h2⟩ := q1
    refine call_len pins s σ H _ us Q I r ⟨_, ys.length, rfl, .inr ⟨ys, on.K ▸ h1.sq, rfl⟩, ?_⟩
    rw [h2.length]
    exact Post.int h rp
  · obtain ⟨v, r2, rfl, q1, q2⟩ := (show ∃ x r, xs = x :: r ∧ RV G H β x _ ∧ RVs G H β r [] by simpa [RVs] using rv)
    simp only [RVs] at q2; subst q2
    simp only [RV] at q1
    obtain ⟨p, ys, rfl, h1, h2⟩ := q1
    refine call_len pins s σ H _ us Q I r ⟨_, ys.length, rfl, .inl ⟨ys, on.K ▸ h1.sq, rfl⟩, ?_⟩
    rw [h2.length]
    exact Post.int h rp
  · obtain ⟨v, r2, rfl, q1, q2⟩ := (show ∃ x r, xs = x :: r ∧ RV G H β x _ ∧ RVs G H β r [] by simpa [RVs] using rv)
    simp only [RVs] at q2; subst q2
    split at h
    · rename_i e
      obtain ⟨p, ys, rfl, _, h1, h2⟩ := rp.lst e q1
      refine call_len pins s σ H _ us Q I r ⟨_, ys.length, rfl, .inl ⟨ys, SqL.of h1, rfl⟩, ?_⟩
      rw [h2.length]
      exact Post.int h rp
    · rename_i e
      obtain ⟨p, es, ep, rfl, _, hs, hl, h2, h3⟩ := rp.dict e q1
      obtain ⟨u, rfl, ru⟩ := vals1 r
      cases ru
      exact dlen_ok on I hs hl h2 h3 fun t s' I' => ⟨.int _, H, I', ⟨t, rfl⟩, Post.int h rp⟩
    · exact h.elim
  · exact h.elim
theorem RVs.split1 {H : Hp} {β : List Pl} {vs : List V} {d : D} (h : RVs G H β vs [d]) : ∃ v, vs = [v] ∧ RV G H β v d := by
  simp only [RVs] at h
  obtain ⟨x, r, rfl, h1, rfl⟩ := h
  exact ⟨x, rfl, h1⟩
theorem RVs.split2 {H : Hp} {β : List Pl} {vs : List V} {d e : D} (h : RVs G H β vs [d, e]) : ∃ v w, vs = [v, w] ∧ RV G H β v d ∧ RV G H β w e := by
  simp only [RVs] at h
  obtain ⟨x, r, rfl, h1, y, r2, rfl, h2, rfl⟩ := h
  exact ⟨x, y, rfl, h1, h2⟩
/-! ### int, max, min, abs -/
def bInt : OpN
  | [.int i], m => some (.int i, m)
  | [.bl k], m => some (.int (if k then 1 else 0), m)
  | _, _ => none
theorem bInt_ok (on : On G X) : CallR X (.type "int") (rON G bInt) := by
  intro pins s σ H xs us Q I r ⟨β, m, ds, rp, rv, h⟩
  unfold bInt at h
  split at h
  · obtain ⟨v, rfl, q⟩ := rv.split1
    simp only [RV] at q; subst q
    exact call_int1 pins s σ H _ us Q I r (.inl ⟨_, rfl, Post.int h rp⟩)
  · obtain ⟨v, rfl, q⟩ := rv.split1
    simp only [RV] at q; subst q
    exact call_int1 pins s σ H _ us Q I r (.inr ⟨_, rfl, Post.int h rp⟩)
  · exact h.elim
def bAbs : OpN
  | [.int i], m => some (.int (if i < 0 then -i else i), m)
  | _, _ => none
theorem bAbs_ok (on : On G X) : CallR X (.builtin "abs") (rON G bAbs) := by
  intro pins s σ H xs us Q I r ⟨β, m, ds, rp, rv, h⟩
  unfold bAbs at h
  split at h
  · obtain ⟨v, rfl, q⟩ := rv.split1
    simp only [RV] at q; subst q
    exact call_abs pins s σ H _ us Q I r ⟨_, rfl, Post.int h rp⟩
  · exact h.elim
def intsD : List D → Option (List Int)
  | [] => some []
  | .int i :: r => (intsD r).map (i :: ·)
  | _ => none
def boolsD : List D → Option (List Bool)
  | [] => some []
  | .bl i :: r => (boolsD r).map (i :: ·)
  | _ => none
theorem intsD_vs {H : Hp} {β : List Pl} : ∀ {ds : List D} {ns : List Int} {vs : List V}, intsD ds = some ns → RVs G H β vs ds → vs = ns.map V.int
  | [], ns, vs, h, r => by simp only [intsD, Option.some.injEq] at h; simp only [RVs] at r; subst h r; rfl
  | .int i :: ds, ns, vs, h, r => by
    simp only [intsD, Option.map_eq_some_iff] at h
    obtain ⟨ms, h1, rfl⟩ := h
    simp only [RVs, RV] at r
    obtain ⟨x, q, rfl, rfl, h2⟩ := r
    rw [intsD_vs h1 h2]; rfl
  | .non :: _, _, _, h, _ => by simp [intsD] at h
  | .bl _ :: _, _, _, h, _ => by simp [intsD] at h
  | .str _ :: _, _, _, h, _ => by simp [intsD] at h
  | .tup _ :: _, _, _, h, _ => by simp [intsD] at h
  | .seq _ :: _, _, _, h, _ => by simp [intsD] at h
  | .loc _ :: _, _, _, h, _ => by simp [intsD] at h
  | .fn _ :: _, _, _, h, _ => by simp [intsD] at h
theorem boolsD_vs {H : Hp} {β : List Pl} : ∀ {ds : List D} {ns : List Bool} {vs : List V}, boolsD ds = some ns → RVs G H β vs ds → vs = ns.map V.bl
  | [], ns, vs, h, r => by simp only [boolsD, Option.some.injEq] at h; simp only [RVs] at r; subst h r; rfl
  | .bl i :: ds, ns, vs, h, r => by
    simp only [boolsD, Option.map_eq_some_iff] at h
    obtain ⟨ms, h1, rfl⟩ := h
    simp only [RVs, RV] at r
    obtain ⟨x, q, rfl, rfl, h2⟩ := r
    rw [boolsD_vs h1 h2]; rfl
  | .non :: _, _, _, h, _ => by simp [boolsD] at h
  | .int _ :: _, _, _, h, _ => by simp [boolsD] at h
  | .str _ :: _, _, _, h, _ => by simp [boolsD] at h
  | .tup _ :: _, _, _, h, _ => by simp [boolsD] at h
  | .seq _ :: _, _, _, h, _ => by simp [boolsD] at h
  | .loc _ :: _, _, _, h, _ => by simp [boolsD] at h
  | .fn _ :: _, _, _, h, _ => by simp [boolsD] at h
/-- the items of a list that stands in the store, or is only read -/
def listM (m : Mem) : D → Option (List D)
  | .seq xs => some xs
  | .loc l => match m[l]? with
    | some (.lst xs) => some xs
    | _ => none
  | _ => none
theorem listM_sq {H : Hp} {β : List Pl} {m : Mem} {d : D} {ds : List D} {v : V} (rp : Rp G H β m) (h : listM m d = some ds) (r : RV G H β v d) : ∃ a xs, v = .ref a ∧ SqL G.K H a xs ∧ RVs G H β xs ds := by
  unfold listM at h
  split at h
  · simp only [Option.some.injEq] at h; subst h
    simp only [RV] at r
    obtain ⟨a, xs, rfl, h1, h2⟩ := r
    exact ⟨a, xs, rfl, h1.sq, h2⟩
  · split at h
    · rename_i e
      simp only [Option.some.injEq] at h; subst h
      obtain ⟨a, xs, rfl, _, h1, h2⟩ := rp.lst e r
      exact ⟨a, xs, rfl, SqL.of h1, h2⟩
    · cases h
  · cases h
theorem itemsM_sqF {H : Hp} {β : List Pl} {m : Mem} {d : D} {ds : List D} {v : V} (rp : Rp G H β m) (h : itemsM m d = some ds) (r : RV G H β v d) : ∃ a xs, v = .ref a ∧ (SqL G.K H a xs ∨ FzT G.K H a xs) ∧ RVs G H β xs ds := by
  unfold itemsM at h
  split at h
  · simp only [Option.some.injEq] at h; subst h
    simp only [RV] at r
    obtain ⟨a, xs, rfl, h1, h2⟩ := r
    exact ⟨a, xs, rfl, .inr h1, h2⟩
  · simp only [Option.some.injEq] at h; subst h
    simp only [RV] at r
    obtain ⟨a, xs, rfl, h1, h2⟩ := r
    exact ⟨a, xs, rfl, .inl h1.sq, h2⟩
  · split at h
    · rename_i e
      simp only [Option.some.injEq] at h; subst h
      obtain ⟨a, xs, rfl, _, h1, h2⟩ := rp.lst e r
      exact ⟨a, xs, rfl, .inl (SqL.of h1), h2⟩
    · cases h
  · cases h
theorem itemsM_sq {H : Hp} {β : List Pl} {m : Mem} {d : D} {ds : List D} {v : V} (rp : Rp G H β m) (h : itemsM m d = some ds) (r : RV G H β v d) : ∃ a xs, v = .ref a ∧ (SqL G.K H a xs ∨ SqT G.K H a xs) ∧ RVs G H β xs ds := by
  obtain ⟨a, xs, e, h1, h2⟩ := itemsM_sqF rp h r
  exact ⟨a, xs, e, h1.imp id FzT.sq, h2⟩
/-- max, min of two ints, or of a list of ints -/
def maxI : List Int → Int
  | [] => 0
  | x :: xs => xs.foldl max x
def minI : List Int → Int
  | [] => 0
  | x :: xs => xs.foldl min x
theorem foldl_max_le (l : List Int) : ∀ (a : Int), a ≤ l.foldl max a ∧ (∀ y ∈ l, y ≤ l.foldl max a) ∧ (l.foldl max a = a ∨ l.foldl max a ∈ l) := by
  induction l with
  | nil => intro a; exact ⟨Int.le_refl _, by simp, .inl rfl⟩
  | cons x l ih =>
    intro a
    obtain ⟨h1, h2, h3⟩ := ih (max a x)
    simp only [List.foldl_cons]
    refine ⟨by omega, fun y hy => ?_, ?_⟩
    · rcases List.mem_cons.mp hy with rfl | hy
      · omega
      · exact h2 y hy
    · rcases h3 with h | h
      · rcases Int.le_total a x with c | c
        · rw [h, Int.max_eq_right c]; exact .inr List.mem_cons_self
        · rw [h, Int.max_eq_left c]; exact .inl rfl
      · exact .inr (List.mem_cons_of_mem _ h)
theorem foldl_min_le (l : List Int) : ∀ (a : Int), l.foldl min a ≤ a ∧ (∀ y ∈ l, l.foldl min a ≤ y) ∧ (l.foldl min a = a ∨ l.foldl min a ∈ l) := by
  induction l with
  | nil => intro a; exact ⟨Int.le_refl _, by simp, .inl rfl⟩
  | cons x l ih =>
    intro a
    obtain ⟨h1, h2, h3⟩ := ih (min a x)
    simp only [List.foldl_cons]
    refine ⟨by omega, fun y hy => ?_, ?_⟩
    · rcases List.mem_cons.mp hy with rfl | hy
      · omega
      · exact h2 y hy
    · rcases h3 with h | h
      · rcases Int.le_total a x with c | c
        · rw [h, Int.min_eq_left c]; exact .inl rfl
        · rw [h, Int.min_eq_right c]; exact .inr List.mem_cons_self
      · exact .inr (List.mem_cons_of_mem _ h)
theorem maxI_is {ns : List Int} {k : Int} (hk : k ∈ ns) (h : ∀ y ∈ ns, y ≤ k) : k = maxI ns := by
  cases ns with
  | nil => simp at hk
  | cons x xs =>
    obtain ⟨h1, h2, h3⟩ := foldl_max_le xs x
    have a : k ≤ maxI (x :: xs) := by
      rcases List.mem_cons.mp hk with rfl | hk
      · exact h1
      · exact h2 k hk
    have b : maxI (x :: xs) ≤ k := by
      rcases h3 with e | e
      · show xs.foldl max x ≤ k
        rw [e]; exact h x List.mem_cons_self
      · exact h _ (List.mem_cons_of_mem _ e)
    omega
theorem minI_is {ns : List Int} {k : Int} (hk : k ∈ ns) (h : ∀ y ∈ ns, k ≤ y) : k = minI ns := by
  cases ns with
  | nil => simp at hk
  | cons x xs =>
    obtain ⟨h1, h2, h3⟩ := foldl_min_le xs x
    have a : minI (x :: xs) ≤ k := by
      rcases List.mem_cons.mp hk with rfl | hk
      · exact h1
      · exact h2 k hk
    have b : k ≤ minI (x :: xs) := by
      rcases h3 with e | e
      · show k ≤ xs.foldl min x
        rw [e]; exact h x List.mem_cons_self
      · exact h _ (List.mem_cons_of_mem _ e)
    omega
def bMax : OpN
  | [.int i, .int j], m => some (.int (max i j), m)
  | [d], m => match (listM m d).bind intsD with
    | some (n :: ns) => some (.int (maxI (n :: ns)), m)
    | _ => none
  | _, _ => none
def bMin : OpN
  | [.int i, .int j], m => some (.int (min i j), m)
  | [d], m => match (listM m d).bind intsD with
    | some (n :: ns) => some (.int (minI (n :: ns)), m)
    | _ => none
  | _, _ => none
theorem bMax_ok (on : On G X) (hc : X.calm = true) : CallR X (.builtin "max") (rON G bMax) := by
  intro pins s σ H xs us Q I r ⟨β, m, ds, rp, rv, h⟩
  unfold bMax at h
  split at h
  · rename_i i j
    obtain ⟨v, w, rfl, q1, q2⟩ := rv.split2
    simp only [RV] at q1 q2; subst q1 q2
    refine call_max2 hc pins s σ H _ us Q I r ⟨_, _, rfl, ?_⟩
    have := Post.int h rp
    have e : (if j > i then j else i) = max i j := by split <;> omega
    rw [e]; exact this
  · obtain ⟨v, rfl, q⟩ := rv.split1
    split at h
    · rename_i n ns e
      obtain ⟨l, e1, e2⟩ := Option.bind_eq_some_iff.mp e
      obtain ⟨a, xs, rfl, h1, h2⟩ := listM_sq rp e1 q
      have e3 := intsD_vs e2 h2
      subst e3
      refine cr_max hc pins s σ H _ us Q I r ⟨a, n :: ns, rfl, on.K ▸ h1, by simp, fun k hk hle => ?_⟩
      rw [maxI_is hk hle]
      exact Post.int h rp
    · exact h.elim
  · exact h.elim
theorem bMin_ok (on : On G X) (hc : X.calm = true) : CallR X (.builtin "min") (rON G bMin) := by
  intro pins s σ H xs us Q I r ⟨β, m, ds, rp, rv, h⟩
  unfold bMin at h
  split at h
  · rename_i i j
    obtain ⟨v, w, rfl, q1, q2⟩ := rv.split2
    simp only [RV] at q1 q2; subst q1 q2
    refine call_min2 hc pins s σ H _ us Q I r ⟨_, _, rfl, ?_⟩
    have := Post.int h rp
    have e : (if j < i then j else i) = min i j := by split <;> omega
    rw [e]; exact this
  · obtain ⟨v, rfl, q⟩ := rv.split1
    split at h
    · rename_i n ns e
      obtain ⟨l, e1, e2⟩ := Option.bind_eq_some_iff.mp e
      obtain ⟨a, xs, rfl, h1, h2⟩ := listM_sq rp e1 q
      have e3 := intsD_vs e2 h2
      subst e3
      refine cr_min hc pins s σ H _ us Q I r ⟨a, n :: ns, rfl, on.K ▸ h1, by simp, fun k hk hle => ?_⟩
      rw [minI_is hk hle]
      exact Post.int h rp
    · exact h.elim
  · exact h.elim
def bSum : OpN
  | [d], m => match (listM m d).bind intsD with
    | some ns => some (.int ns.sum, m)
    | _ => none
  | _, _ => none
theorem bSum_ok (on : On G X) (hc : X.calm = true) : CallR X (.builtin "sum") (rON G bSum) := by
  intro pins s σ H xs us Q I r ⟨β, m, ds, rp, rv, h⟩
  unfold bSum at h
  split at h
  · obtain ⟨v, rfl, q⟩ := rv.split1
    split at h
    · rename_i ns e
      obtain ⟨l, e1, e2⟩ := Option.bind_eq_some_iff.mp e
      obtain ⟨a, xs, rfl, h1, h2⟩ := listM_sq rp e1 q
      have e3 := intsD_vs e2 h2
      subst e3
      exact cr_sum hc pins s σ H _ us Q I r ⟨a, ns, rfl, on.K ▸ h1, Post.int h rp⟩
    · exact h.elim
  · exact h.elim
def bAll : OpN
  | [d], m => match (listM m d).bind boolsD with
    | some bs => some (.bl (bs.all id), m)
    | none => none
  | _, _ => none
def bAny : OpN
  | [d], m => match (listM m d).bind boolsD with
    | some bs => some (.bl (bs.any id), m)
    | none => none
  | _, _ => none
theorem bAll_ok (on : On G X) (hc : X.calm = true) : CallR X (.builtin "all") (rON G bAll) := by
  intro pins s σ H xs us Q I r ⟨β, m, ds, rp, rv, h⟩
  unfold bAll at h
  split at h
  · obtain ⟨v, rfl, q⟩ := rv.split1
    split at h
    · rename_i ns e
      obtain ⟨l, e1, e2⟩ := Option.bind_eq_some_iff.mp e
      obtain ⟨a, xs, rfl, h1, h2⟩ := listM_sq rp e1 q
      have e3 := boolsD_vs e2 h2
      subst e3
      exact cr_all hc pins s σ H _ us Q I r ⟨a, ns, rfl, on.K ▸ h1, Post.bl h rp⟩
    · exact h.elim
  · exact h.elim
theorem bAny_ok (on : On G X) (hc : X.calm = true) : CallR X (.builtin "any") (rON G bAny) := by
  intro pins s σ H xs us Q I r ⟨β, m, ds, rp, rv, h⟩
  unfold bAny at h
  split at h
  · obtain ⟨v, rfl, q⟩ := rv.split1
    split at h
    · rename_i ns e
      obtain ⟨l, e1, e2⟩ := Option.bind_eq_some_iff.mp e
      obtain ⟨a, xs, rfl, h1, h2⟩ := listM_sq rp e1 q
      have e3 := boolsD_vs e2 h2
      subst e3
      exact cr_any hc pins s σ H _ us Q I r ⟨a, ns, rfl, on.K ▸ h1, Post.bl h rp⟩
    · exact h.elim
  · exact h.elim
/-! ### tuple, list -/
def bTuple : OpN
  | [d], m => (itemsM m d).map fun xs => (.tup xs, m)
  | _, _ => none
theorem bTuple_ok (on : On G X) : CallR X (.type "tuple") (rON G bTuple) := by
  intro pins s σ H xs us Q I r ⟨β, m, ds, rp, rv, h⟩
  unfold bTuple at h
  split at h
  · obtain ⟨v, rfl, q⟩ := rv.split1
    cases e : itemsM m _ with
    | none => rw [e] at h; exact h.elim
    | some ys =>
      rw [e] at h
      obtain ⟨a, zs, rfl, h1, h2⟩ := itemsM_sqF rp e q
      refine call_tupleF pins s σ H _ us Q I r ⟨a, zs, rfl, ?_⟩
      rcases h1 with h1 | h1
      · exact .inl ⟨on.K ▸ h1, fun l o hl ho => Post.tup h rp h2 hl ho⟩
      · refine .inr ⟨on.K ▸ h1.sq, Post.same h rp ?_⟩
        simp only [RV]
        exact ⟨a, zs, rfl, h1, h2⟩
  · exact h.elim
/-- list(d) of a list, a tuple, or the keys of a dict -/
def bList : OpN
  | [d], m => match itemsM m d with
    | some xs => some (.loc m.length, m ++ [.lst xs])
    | none => match d with
      | .loc l => match m[l]? with
        | some (.dict kvs _) => some (.loc m.length, m ++ [.lst (kvs.map (·.1))])
        | _ => none
      | _ => none
  | _, _ => none
end
/-- Values that stand for data, as abstract values -/
theorem rvalues {G : Gx} {H : Hp} {β : List Pl} : ∀ {us : List Value} {ds : List D}, Paired (RValue G H β) us ds → ∃ vs, Vals vs us ∧ RVs G H β vs ds
  | _, _, .nil => ⟨[], .nil, RVs.nil⟩
  | _, _, .cons ⟨v, r1, r2⟩ t => by
    obtain ⟨vs, h1, h2⟩ := rvalues t
    exact ⟨v :: vs, .cons r1 h1, RVs.cons r2 h2⟩
theorem values_r {G : Gx} {H : Hp} {β : List Pl} : ∀ {vs : List V} {us : List Value} {ds : List D}, Vals vs us → RVs G H β vs ds → Paired (RValue G H β) us ds
  | _, _, [], .nil, h => .nil
  | _, _, [], .cons _ _, h => by simp [RVs] at h
  | _, _, d :: ds, .nil, h => by simp [RVs] at h
  | _, _, d :: ds, .cons r t, h => by
    obtain ⟨h1, h2⟩ := h.uncons
    exact .cons ⟨_, r, h1⟩ (values_r t h2)
theorem Paired.get1 {α γ : Type} {F : α → γ → Prop} : ∀ {l1 : List α} {l2 : List γ}, Paired F l1 l2 → l1.length = l2.length ∧ ∀ (i : Nat) (x : α) (y : γ), l1[i]? = some x → l2[i]? = some y → F x y
  | _, _, .nil => ⟨rfl, fun i x y h => by simp at h⟩
  | _, _, .cons r t => by
    obtain ⟨h1, h2⟩ := Paired.get1 t
    refine ⟨by simp [h1], fun i x y e1 e2 => ?_⟩
    cases i with
    | zero => simp at e1 e2; subst e1 e2; exact r
    | succ i => exact h2 i x y (by simpa using e1) (by simpa using e2)
theorem Paired.of_get {α γ : Type} {F : α → γ → Prop} : ∀ {l1 : List α} {l2 : List γ}, l1.length = l2.length → (∀ (i : Nat) (x : α) (y : γ), l1[i]? = some x → l2[i]? = some y → F x y) → Paired F l1 l2
  | [], [], _, _ => .nil
  | [], _ :: _, h, _ => by simp at h
  | _ :: _, [], h, _ => by simp at h
  | x :: xs, y :: ys, h, f => .cons (f 0 x y rfl rfl) (Paired.of_get (by simpa using h) fun i a b e1 e2 => f (i + 1) a b (by simpa using e1) (by simpa using e2))
/-- the keys that a walk yields -/
theorem keys_of {G : Gx} {H : Hp} {β : List Pl} {es : Array DictEntry} {kvs : List (D × D)} {acc : Array Value} (e : PE2 G H β es.toList kvs) (h : ItemsOf (fun i v => ∃ hi : i < es.size, v = es[i].key) acc es.size) : Paired (RValue G H β) acc.toList (kvs.map (·.1)) := by
  obtain ⟨h1, h2⟩ := h
  obtain ⟨l1, l2⟩ := Paired.get1 e
  refine Paired.of_get (by simp only [Array.length_toList, List.length_map]; rw [h1]; simpa using l1) fun i x y e1 e2 => ?_
  obtain ⟨hi, rfl⟩ := h2 i x (by simpa using e1)
  rw [List.getElem?_map] at e2
  obtain ⟨q, e3, rfl⟩ := Option.map_eq_some_iff.mp e2
  exact (l2 i es[i] q (by simp [hi]) e3).1
section
variable {G : Gx} {X : Cx}
theorem bList_ok (on : On G X) (hc : X.calm = true) : CallR X (.type "list") (rON G bList) := by
  intro pins s σ H xs us Q I r ⟨β, m, ds, rp, rv, h⟩
  unfold bList at h
  split at h
  · obtain ⟨v, rfl, q⟩ := rv.split1
    split at h
    · rename_i ys e
      obtain ⟨a, zs, rfl, h1, h2⟩ := itemsM_sq rp e q
      exact call_list_of pins s σ H _ us Q I r ⟨a, zs, rfl, h1.imp (fun z => on.K ▸ z) (fun z => on.K ▸ z), fun l hl => Post.lst h rp h2 hl⟩
    · split at h
      · split at h
        · rename_i kvs lk e
          obtain ⟨p, es, ep, rfl, _, hs, hl, h2, h3⟩ := rp.dict e q
          obtain ⟨u, rfl, ru⟩ := vals1 r
          cases ru
          have pe := ent_all h3
          have hle : es.size = kvs.length := by simpa using Paired.length pe
          obtain ⟨o, ep, z1, z2, z3⟩ := dictO_at I h2
          refine kdl_call (KdlSrc.rawDict (d := p) (es := es) (ep := ep) hs) (I.ok.hd hc) ⟨o, z1, z2, z3⟩ (by omega) fun h' tk acc' c' hk ho hi => ?_
          obtain ⟨vs, w1, w2⟩ := rvalues (keys_of pe hi)
          have hsz : acc'.size = kvs.length := by rw [hi.1, hle]
          have ob : ∀ H', ObjOk X.prog X.w H' h' s.heap.objs.size (.lst vs) := fun H' => ⟨by rw [w1.length]; simp [hsz]; omega, acc'.toList, c', w1, by simpa using ho⟩
          exact ⟨.ref _, upd H s.heap.objs.size (.lst vs), I.laid (t' := tk) hk (Nat.le_refl _) (ob _), rfl, Post.lst h rp w2 (I.hok.fresh (Nat.le_refl _))⟩
        · exact h.elim
      · exact h.elim
  · exact h.elim
end
end Mn
set_option Elab.async false
set_option linter.all false
set_option maxRecDepth 100000
set_option maxHeartbeats 1000000
/-! Mn8: sorted. -/
namespace Mn
open PySem L2 PySem.Spec PyProof.Rows PyProof.V PySem.W PySem.Calls
/-- what can be sorted: pure data, every two of which can be compared -/
def sortable (ds : List D) : Bool := ds.all (pureD 12) && ds.all fun a => ds.all fun b => comp (toPy a) (toPy b)
def leD (a b : D) : Bool := dataLe false toPy a b
def sortD (ds : List D) : List D := ds.mergeSort leD
theorem perm_each {α β : Type} {R : α → β → Prop} {l : List α} {m : List β} (h : EachIs R l m) : Paired R l m := by
  induction h with
  | nil => exact .nil
  | cons h t ih => exact .cons h ih
theorem each_paired {α β : Type} {R : α → β → Prop} {l : List α} {m : List β} (h : Paired R l m) : EachIs R l m := by
  induction h with
  | nil => exact .nil
  | cons h t ih => exact .cons h ih
theorem values_back {G : Gx} {H : Hp} {β : List Pl} : ∀ {us : List Value} {ds : List D}, Paired (RValue G H β) us ds → ∃ vs, Vals vs us ∧ RVs G H β vs ds
  | _, _, .nil => ⟨[], .nil, RVs.nil⟩
  | _, _, .cons h t => by
    obtain ⟨v, r1, r2⟩ := h
    obtain ⟨vs, h1, h2⟩ := values_back t
    exact ⟨v :: vs, .cons r1 h1, RVs.cons r2 h2⟩
section
variable {G : Gx} {X : Cx} {pins : List (Addr × Obj)} {σ : L2.St} {H H1 : Hp} {s : Shared} {β : List Pl} {m : Mem} {ds : List D}
theorem sort_end {Q : VK} {E : Value → Shared → Prop} {h' : Heap} {tk : Nat} {us : List Value} (on : On G X) (hu : X.A.units + 64 < cLine) (I1 : L2.Inv X pins σ H1 { s with heap := h', toks := tk }) (rp : Rp G H1 β m)
    (ru : Paired (RValue G H1 β) us ds) (hs : sortable ds = true) (hL : ds.length ≤ sizeLine) (h : Post G H1 β (m ++ [.lst (sortD ds)]) (.loc m.length) Q) :
    wpAny (model X.prog X.w) X.A.in1 (call (.builtin "list.sort") [.ref h'.objs.size]) (fun _ s' => EP X pins σ Q (.ref h'.objs.size) s') E { s with heap := h'.push { cls := .type "list", data := .seq us.toArray }, toks := tk } := by
  simp only [sortable, Bool.and_eq_true, List.all_eq_true] at hs
  obtain ⟨hp, hc⟩ := hs
  have pu : ∀ d ∈ ds, rd m 12 d = some (toPy d) := fun d hd => pure_rd 12 d (hp d hd)
  have hob : (h'.push { cls := .type "list", data := .seq us.toArray }).get? h'.objs.size = some (seqObj "list" us.toArray 0) := Heap.get?_push_size _ rfl
  have kb : ∀ b o, h'.get? b = some o → (h'.push { cls := .type "list", data := .seq us.toArray }).get? b = some o := fun b o e => Heap.get?_push_of_some _ e
  have ne0 : ∀ b o, h'.get? b = some o → b ≠ h'.objs.size := fun b o e => Nat.ne_of_lt (Heap.lt_size e)
  generalize hh2 : h'.push { cls := .type "list", data := .seq us.toArray } = h2 at hob kb ⊢
  have ev := each_paired ru
  refine sortC (s := { s with heap := h2, toks := tk }) (R := RValue G H1 β) (enc := toPy) hob ev ?_ ?_ ?_ hL ?_ fun out o1 o2 => ?_
  · refine (each_mem ev).mono fun u d q => ?_
    obtain ⟨⟨v, r1, r2⟩, hd⟩ := q
    obtain ⟨as, r⟩ := Dp.reads I1 _ _ _ (on.K ▸ rd_dp rp _ _ _ _ (pu d hd) r2) r1
    exact ⟨as, PyProof.Rows.Reads.keeps (fun b o e => sortingHeap_old (ne0 b o e) (kb b o e)) r⟩
  · intro d hd d' hd'
    obtain ⟨x, hx, rfl⟩ := List.mem_map.mp hd
    obtain ⟨y, hy, rfl⟩ := List.mem_map.mp hd'
    exact hc x hx y hy
  · exact fun d hd => (rd_ok 12 _ _ (pu d hd)).1
  · intro d hd
    have := (rd_ok 12 _ _ (pu d hd)).2
    have e : X.A.in1.units = X.A.units + 1 := rfl
    omega
  · show EP X pins σ Q (.ref h'.objs.size) { s with heap := sortedHeap h2 h'.objs.size us (List.toArray out), toks := tk }
    obtain ⟨vs, w1, w2⟩ := values_back (perm_each o2)
    have kF : ∀ b o, h'.get? b = some o → (sortedHeap h2 h'.objs.size us out.toArray).get? b = some o := fun b o e => (PyProof.Rows.sortedHeap_old (ne0 b o e) (Heap.lt_size (kb b o e))).trans (kb b o e)
    obtain ⟨eF, heF⟩ := PyProof.Rows.sortedHeap_at (vs := us) (out := out.toArray) hob
    have ob : ∀ H', ObjOk X.prog X.w H' (sortedHeap h2 h'.objs.size us out.toArray) h'.objs.size (.lst vs) := fun H' => ⟨by rw [w1.length]; omega, out, eF, w1, heF⟩
    exact ⟨.ref _, upd H1 h'.objs.size (.lst vs), I1.laid (t' := tk) kF (Nat.le_refl _) (ob _), rfl, Post.lst h rp w2 (I1.hok.fresh (Nat.le_refl _))⟩
/-- what sorted takes: a list, a tuple, a dict's keys -/
def seqD (m : Mem) : D → Option (List D)
  | .tup xs => some xs
  | .seq xs => some xs
  | .loc l => match m[l]? with
    | some (.lst xs) => some xs
    | some (.dict kvs _) => if kvs.length ≤ sizeLine then some (kvs.map (·.1)) else none
    | _ => none
  | _ => none
def bSorted : OpN
  | [d], m => match seqD m d with
    | some xs => if sortable xs = true ∧ xs.length ≤ sizeLine then some (.loc m.length, m ++ [.lst (sortD xs)]) else none
    | none => none
  | _, _ => none
/-- the items of it in the heap's terms -/
theorem seqD_cases {d : D} {xs : List D} {v : V} (rp : Rp G H β m) (h : seqD m d = some xs) (r : RV G H β v d) : (∃ a zs, v = .ref a ∧ (SqL G.K H a zs ∨ SqT G.K H a zs) ∧ RVs G H β zs xs) ∨
    ∃ p es ep kvs, v = .ref p ∧ xs = kvs.map (·.1) ∧ (p == sysModules) = false ∧ kvs.length ≤ sizeLine ∧ H p = some (dictO p es ep) ∧ (EntM G H β es kvs ∨ EntN G H β es kvs) := by
  unfold seqD at h
  split at h
  · exact .inl (itemsM_sq rp (by simpa [itemsM] using h) r)
  · exact .inl (itemsM_sq rp (by simpa [itemsM] using h) r)
  · split at h
    · rename_i e; exact .inl (itemsM_sq rp (by simpa [itemsM, e] using h) r)
    · rename_i kvs lk e
      split at h
      · simp only [Option.some.injEq] at h
        obtain ⟨p, es, ep, rfl, _, hs, hl, h2, h3⟩ := rp.dict e r
        exact .inr ⟨p, es, ep, kvs, rfl, h.symm, hs, hl, h2, h3⟩
      · cases h
    · cases h
  · cases h
/-- the sequence in the heap -/
theorem sq_there {K : PySem.W.Frag} {a : Addr} {zs : List V} (hk : X.K = K) (I : L2.Inv X pins σ H s) (h : SqL K H a zs ∨ SqT K H a zs) : ∃ (T : String) (o : Obj) (its : Array Value) (n : Nat), (T = "list" ∨ T = "tuple") ∧ s.heap.get? a = some o ∧ o.cls = .type T ∧ o.data = .seq its n ∧ its.size ≤ sizeLine ∧ Vals zs its.toList := by
  subst hk
  rcases h with h | h
  · obtain ⟨its, r, pl, hz⟩ := I.list h
    obtain ⟨o, ho, hc, n, hd⟩ := pl.isList
    exact ⟨"list", o, its.toArray, n, .inl rfl, ho, hc, hd, by rw [List.size_toArray, ← r.length]; exact hz, r⟩
  · obtain ⟨its, r, pl, hz⟩ := I.tuple h
    obtain ⟨o, ho, hc, n, hd⟩ := pl
    exact ⟨"tuple", o, its.toArray, n, .inr rfl, ho, hc, hd, by rw [List.size_toArray, ← r.length]; exact hz, r⟩
theorem bSorted_ok (on : On G X) (hc : X.calm = true) (hu : X.A.units + 64 < cLine) : CallR X (.builtin "sorted") (rON G bSorted) := by
  intro pins s σ H xs us Q I r ⟨β, m, ds, rp, rv, h⟩
  unfold bSorted at h
  split at h
  · obtain ⟨v, rfl, q⟩ := rv.split1
    obtain ⟨u, rfl, ru⟩ := vals1 r
    split at h
    · rename_i zs e
      split at h
      · rename_i c
        rcases seqD_cases rp e q with ⟨a, ws, rfl, h1, h2⟩ | ⟨p, es, ep0, kvs, rfl, rfl, hs, hl, h2, h3⟩
        · cases ru
          obtain ⟨T, o, its, n, hT, ho, hcl, hd, hz, hv⟩ := sq_there on.K I h1
          refine call_function_entry kind_sorted plain_sorted entry_sorted (args_sorted1 _) ?_
          unfold Builtin.«sorted»
          refine wpAny_bind (m := checkCount "sorted" 1 1 _) (wpAny_pure ?_)
          refine wpAny_bind (wpAny_collect_seq a hT ho hcl hd (fun h' hk => ?_) hz)
          refine wpAny_bind (wpAny_newList ?_ (by simpa using hz))
          refine wpAny_bind (wpAny_holding (wpAny_mono (sort_end (s := s) (h' := h') (tk := s.toks) on hu (I.kept (t' := s.toks) hk) rp (values_r hv h2) c.1 c.2 h) (fun _ s' x => ?_) fun _ _ e => e))
          exact wpAny_pure ⟨_, rfl, x⟩
        · cases ru
          have pe := ent_all h3
          have hle : es.size = kvs.length := by simpa using Paired.length pe
          obtain ⟨o, ep, z1, z2, z3⟩ := dictO_at I h2
          refine call_function_entry kind_sorted plain_sorted entry_sorted (args_sorted1 _) ?_
          unfold Builtin.«sorted»
          refine wpAny_bind (m := checkCount "sorted" 1 1 _) (wpAny_pure ?_)
          refine wpAny_bind (kdu_collect (KdlSrc.rawDict (d := p) (es := es) (ep := ep) hs) (I.ok.hd hc) ⟨o, z1, z2, z3⟩ (by omega) fun h' tk acc hk hi => ?_)
          have hsz : acc.size = kvs.length := by rw [hi.1, hle]
          refine wpAny_bind (wpAny_newList ?_ (by simp [hsz]; omega))
          refine wpAny_bind (wpAny_holding (wpAny_mono (sort_end (s := s) (h' := h') (tk := tk) on hu (I.kept (t' := tk) hk) rp (keys_of pe hi) c.1 c.2 h) (fun _ s' x => ?_) fun _ _ e => e))
          exact wpAny_pure ⟨_, rfl, x⟩
      · exact h.elim
    · exact h.elim
  · exact h.elim
end
/-! ### d.items() -/
def tItems (G : Gx) (W : WX) (fe : FE) (d : Den) : TE := fun σ H Q => ∃ β m ρ, Rp G H β m ∧ RS G H β σ ρ ∧ GoodO G (fun c d H' => W c d σ H') H β (fun d m' H' β' => ∃ l kvs lk, d = .loc l ∧ m'[l]? = some (.dict kvs lk) ∧ ∀ a p, β'[l]? = some (a, lk) → H' p = none → Q (.ref p) (upd H' p (DX.itemsO p a))) (d fe ρ m)
section
variable {G : Gx} {X : Cx} {W : WX} {fe : FE} {o : Expr} {d : Den} {apos cpos : Pos}
theorem pe_items (ho : PE X o (tE G W fe d)) (hbase : attributeBase o "items" X.env (eval o X.env) = eval o X.env) (hline : (apos.endLine == cpos.line) = true) : PE X (.Call (.Attribute o "items" apos) [] [] cpos) (tItems G W fe d) := by
  refine ⟨fun pins s σ H Q I h => ?_⟩
  obtain ⟨β, m, ρ, rp, rs, g⟩ := h
  refine wpAny_Call_method0_late hbase hline (thn (ho.run pins s σ H (fun v H1 => ∃ a es ep, v = .ref a ∧ (a == sysModules) = false ∧ H1 a = some (dictO a es ep) ∧ ∀ p, H1 p = none → Q (.ref p) (upd H1 p (DX.itemsO p a))) I ⟨β, m, ρ, rp, rs, (GoodO.mono g fun x m1 H1 β1 e1 rp1 g1 u ru => ?_).e⟩) fun v s1 ⟨x, H1, I1, r1, q1⟩ => ?_)
  · obtain ⟨l, kvs, lk, rfl, hm, hq⟩ := g1
    obtain ⟨a, es, ep, rfl, hb, hs, _, h2, _⟩ := rp1.dict hm ru
    exact ⟨a, es, ep, rfl, hs, h2, fun p hp => hq a p hb hp⟩
  · obtain ⟨a, es, ep, rfl, hs, h2, hq⟩ := q1
    cases r1
    obtain ⟨ob, ep, z1, z2, z3⟩ := dictO_at I1 h2
    refine ⟨"dict", "dict.items", PySem.F.plainAttrs_dict, PySem.F.slot_dict_items, PySem.F.type_dict_items, ⟨ob, z1, z2.1⟩, fun b e => ?_, Calls.callWith_builtin rfl (PySem.evalArgs_none ?_)⟩
    · cases e; exact ⟨ob, z1, z2.2.1⟩
    · refine DT.callItems (es := es) (ep := ep) hs ⟨ob, z1, z2, z3⟩ ?_
      exact ⟨.ref s1.heap.objs.size, upd H1 s1.heap.objs.size (DX.itemsO s1.heap.objs.size a), I1.laid (t' := s1.toks) (fun b u e => Heap.get?_push_of_some _ e) (Nat.le_refl _) (DX.itemsO_ok (Heap.get?_push_size _ rfl)), rfl, hq _ (I1.hok.fresh (Nat.le_refl _))⟩
end
/-- tuples already laid are tracked, with their objects -/
theorem takeF {X : Cx} {pins : List (Addr × Obj)} {σ : L2.St} {H0 : Hp} {s : Shared} {h' : Heap} {tk : Nat} {P : Addr → Obj → List V → Prop} (I0 : L2.Inv X pins σ H0 s) : ∀ (L : List Addr) (H1 : Hp), L2.Inv X pins σ H1 { s with heap := h', toks := tk } → L.Nodup →
    (∀ a ∈ L, s.heap.objs.size ≤ a ∧ H1 a = none ∧ ∃ o vs, P a o vs ∧ ∀ H2, ObjOk X.prog X.w H2 h' a (.frz o (.tup vs))) →
    ∃ H2, L2.Inv X pins σ H2 { s with heap := h', toks := tk } ∧ (∀ b o, H1 b = some o → H2 b = some o) ∧ ∀ a ∈ L, ∃ o vs, P a o vs ∧ H2 a = some (.frz o (.tup vs))
  | [], H1, I1, _, _ => ⟨H1, I1, fun _ _ e => e, fun _ h => nomatch h⟩
  | a :: L, H1, I1, hn, h => by
    obtain ⟨hb, hnone, o, vs, hP, ok⟩ := h a (List.mem_cons_self ..)
    have I2 : L2.Inv X pins σ (upd H1 a (.frz o (.tup vs))) { s with heap := h', toks := tk } := I1.take (h' := h') (t' := tk) (fun b ob _ e => e) (I0.fpOk hb hnone) (ok _)
    rw [List.nodup_cons] at hn
    obtain ⟨H2, I3, g, q⟩ := takeF I0 L _ I2 hn.2 fun c hc => by
      obtain ⟨c1, c2, c3⟩ := h c (List.mem_cons_of_mem _ hc)
      exact ⟨c1, by rw [upd_ne (fun z => hn.1 (by rw [← z]; exact hc))]; exact c2, c3⟩
    refine ⟨H2, I3, fun b o e => g b o (by rw [upd_ne (ne_of_none e hnone)]; exact e), fun c hc => ?_⟩
    rcases List.mem_cons.mp hc with rfl | hc
    · exact ⟨o, vs, hP, g _ _ upd_same⟩
    · exact q c hc
def pairD (q : D × D) : D := .tup [q.1, q.2]
def bSortItems : OpN
  | [.loc l], m => match m[l]? with
    | some (.dict kvs _) => if sortable (kvs.map pairD) = true ∧ kvs.length ≤ sizeLine then some (.loc m.length, m ++ [.lst (sortD (kvs.map pairD))]) else none
    | _ => none
  | _, _ => none
def rItems (G : Gx) (f : OpN) : List V → Hp → VK → Prop := fun vs H Q => ∃ p a β m l kvs lk, vs = [.ref p] ∧ H p = some (DX.itemsO p a) ∧ Rp G H β m ∧ m[l]? = some (.dict kvs lk) ∧ β[l]? = some (a, lk) ∧ PostO G H β Q (f [.loc l] m)
section
variable {G : Gx} {X : Cx} {pins : List (Addr × Obj)} {σ : L2.St} {H : Hp} {s : Shared} {β : List Pl} {m : Mem}
/-- the pairs that a walk over the view made -/
theorem pairs_made {es : Array DictEntry} {kvs : List (D × D)} {h' : Heap} {tk : Nat} {as : List Addr} (I : L2.Inv X pins σ H s) (rp : Rp G H β m) (pe : PE2 G H β es.toList kvs) (hk : ∀ b o, s.heap.get? b = some o → h'.get? b = some o) (hG : DT.Made es s.heap.objs.size h' as) (hl : as.length = es.size) :
    ∃ H2, L2.Inv X pins σ H2 { s with heap := h', toks := tk } ∧ Hle H H2 ∧ Paired (RValue G H2 β) (as.map Value.ref) (kvs.map pairD) := by
  have I1 : L2.Inv X pins σ H { s with heap := h', toks := tk } := I.kept (t' := tk) hk
  have nd : as.Nodup := List.Pairwise.imp (fun h => Nat.ne_of_lt h) hG.rise
  have ix : ∀ (j : Nat) (b : Addr), as[j]? = some b → ∃ (q : D × D) (u1 u2 : Value) (v1 v2 : V), kvs[j]? = some q ∧ RelV v1 u1 ∧ RelV v2 u2 ∧ RV G H β v1 q.1 ∧ RV G H β v2 q.2 ∧ h'.get? b = some { cls := .type "tuple", data := .seq #[u1, u2] } := by
    intro j b hj
    obtain ⟨en, he, hg⟩ := hG.pairs j b hj
    have hlt := (Array.getElem?_eq_some_iff.mp he).1
    obtain ⟨l1, l2⟩ := Paired.get1 pe
    have hkl : j < kvs.length := by rw [← l1]; simpa using hlt
    obtain ⟨⟨v1, a1, b1⟩, ⟨v2, a2, b2⟩⟩ := l2 j en kvs[j] (by simpa using he) (by simp [hkl])
    exact ⟨kvs[j], en.key, en.val, v1, v2, by simp [hkl], a1, a2, b1, b2, hg⟩
  obtain ⟨H2, I3, g, qt⟩ := takeF (P := fun b o vs => ∃ (j : Nat) (q : D × D) (v1 v2 : V), as[j]? = some b ∧ kvs[j]? = some q ∧ vs = [v1, v2] ∧ o.dict = none ∧ RV G H β v1 q.1 ∧ RV G H β v2 q.2) I as _ I1 nd fun b hb => by
    obtain ⟨j, hj⟩ := List.mem_iff_getElem?.mp hb
    obtain ⟨q, u1, u2, v1, v2, e1, a1, a2, b1, b2, hg⟩ := ix j b hj
    have hbl : s.heap.objs.size ≤ b := Nat.le_of_lt (hG.above b hb)
    exact ⟨hbl, I.hok.fresh hbl, _, [v1, v2], ⟨j, q, v1, v2, hj, e1, rfl, rfl, b1, b2⟩, fun H3 => ⟨hg, (by rw [sizeLine_eq]; show 2 ≤ 16777216; omega), [u1, u2], .cons a1 (.cons a2 .nil), ⟨_, hg, rfl, 0, rfl⟩⟩⟩
  have hle : Hle H H2 := g
  refine ⟨H2, I3, hle, Paired.of_get (by simp only [List.length_map]; rw [hl]; simpa using (Paired.get1 pe).1) fun i x y e1 e2 => ?_⟩
  rw [List.getElem?_map] at e1 e2
  obtain ⟨b, hb, rfl⟩ := Option.map_eq_some_iff.mp e1
  obtain ⟨q, hq, rfl⟩ := Option.map_eq_some_iff.mp e2
  obtain ⟨o, vs, ⟨j, q', v1, v2, j1, j2, rfl, od, r1, r2⟩, hH⟩ := qt b (List.mem_of_getElem? hb)
  have eij : i = j := (List.getElem?_inj (List.getElem?_eq_some_iff.mp hb).1 nd).mp (hb.trans j1.symm)
  subst eij
  have ee : q' = q := Option.some.inj (j2.symm.trans hq)
  subst ee
  refine ⟨.ref b, rfl, ?_⟩
  simp only [pairD, RV]
  exact ⟨b, [v1, v2], rfl, .inl ⟨o, hH, od⟩, RVs.cons (RV.mono hle.tl (BL.refl _) _ _ r1) (RVs.one (RV.mono hle.tl (BL.refl _) _ _ r2))⟩
theorem PostO.le {H1 : Hp} {Q : VK} {r : Option (D × Mem)} (h : PostO G H β Q r) (l : Hle H H1) : PostO G H1 β Q r := by
  cases r with
  | none => exact h
  | some p => exact fun u β' H' x => h u β' H' ((Ext.le l).trans x)
theorem cr_sortItems (on : On G X) (hc : X.calm = true) (hu : X.A.units + 64 < cLine) : CallR X (.builtin "sorted") (rItems G bSortItems) := by
  intro pins s σ H xs us Q I r ⟨p, a, β, m, l, kvs, lk, e, hp, rp, hm, hb, h⟩
  subst e
  obtain rfl := Vals.ref1 r
  have view : s.heap.IsItemsView p a := (show ObjOk X.prog X.w H s.heap p (DX.itemsO p a) from I.hok p _ hp).1
  obtain ⟨p', es, ep, e', hb', hs, hl, h2, h3⟩ := rp.dict hm (v := .ref a) (by simp only [RV]; exact ⟨a, lk, rfl, hb⟩)
  cases e'
  obtain ⟨o, ep, z1, z2, z3⟩ := dictO_at I h2
  have pe := ent_all h3
  have hle : es.size = kvs.length := by simpa using Paired.length pe
  simp only [bSortItems, hm] at h
  split at h
  · rename_i c
    refine DT.sortedI (es := es) (ep := ep) (I.ok.hd hc) view ⟨o, z1, z2, z3⟩ (by omega) fun h' tk as hk hlt hl' hG => ?_
    obtain ⟨H2, I2, g, pr⟩ := pairs_made (tk := tk) I rp pe hk hG hl'
    exact sort_end (s := s) (h' := h') (tk := tk) on hu I2 (rp.le g) pr c.1 (by simpa using c.2) (PostO.le (r := some _) h g)
  · exact h.elim
/-- f(d.items()) -/
def xItemsF (f : OpN) (a : Den) : Den := fun fe ρ m => (a fe ρ m).bind fun d m1 => match d with
  | .loc l => match m1[l]? with
    | some (.dict _ _) => .ofO (f [.loc l] m1)
    | _ => .bad
  | _ => .bad
variable {W : WX} {fe : FE} {o : Expr} {d : Den} {apos cpos pos q : Pos} {x : Str} {id T : String} {f : OpN}
theorem itemsF_red {Q : VK} (h : tE G W fe (xItemsF f d) σ H Q) : tCB (rItems G f) (tCons (tItems G W fe d) tNil) σ H Q := by
  obtain ⟨β, m, ρ, rp, rs, g⟩ := h
  refine ⟨β, m, ρ, rp, rs, GoodO.mono (GoodO.bind (GoodE.iff.mp g)) fun x m1 H1 β1 e1 rp1 g1 => ?_⟩
  cases x with
  | loc l =>
    simp only at g1
    split at g1
    · rename_i kvs lk e
      refine ⟨l, kvs, lk, rfl, e, fun a p ha hp => ?_⟩
      have hle := Hle.upd (o := DX.itemsO p a) hp
      exact ⟨p, a, β1, m1, l, kvs, lk, rfl, upd_same, rp1.le hle, e, ha, PostO.le (GoodE.ofO g1.e) hle⟩
    · exact False.elim g1
  | _ => exact False.elim g1
end
end Mn
set_option Elab.async false
set_option linter.all false
set_option maxRecDepth 100000
set_option maxHeartbeats 1000000
/-! Mn9: subscripts, slices, methods. -/
namespace Mn
open PySem L2 PySem.Spec PyProof.Rows PyProof.V PySem.W PySem.Calls
section
variable {G : Gx} {X : Cx} {W : WX} {fe : FE} {o e : Expr} {es : List Expr} {d da db : Den} {dA : DenA} {apos cpos pos q p2 : Pos} {x name : Str} {id T : String} {f : OpN}
theorem xsortItems_ok {xp : Pos} (on : On G X) (hc : X.calm = true) (hu : X.A.units + 64 < cLine) (hg : Gl X "sorted") (hm : X.mg "sorted" = none) (ho : PE X o (tE G W fe d)) (hbase : attributeBase o "items" X.env (eval o X.env) = eval o X.env) (hline : (apos.endLine == cpos.line) = true)
    (hdb : (("sorted" : Str) == ("__debug__" : Str)) = false) (hn : ("sorted" : Str) ≠ "__name__") (hv : bootBuiltins "sorted" = some (.builtin "sorted"))
    (hs : starEach [.Call (.Attribute o "items" apos) [] [] cpos] X.env = (false, eval (.Call (.Attribute o "items" apos) [] [] cpos) X.env) :: starEach [] X.env) (hpl : (backTo pos (starEach [] X.env)).any (·.1) = false) :
    PE X (.Call (.Name "sorted" xp) [.Call (.Attribute o "items" apos) [] [] cpos] [] pos) (tE G W fe (xItemsF bSortItems d)) :=
  PE.imp (pe_callB (cr_sortItems on hc hu) hg hm hv (pa_cons (pe_items ho hbase hline) pa_nil hs) hn hdb hs hpl) fun _ _ _ h => itemsF_red h
end
/-! ### a[b] -/
def opIx : Op2 := fun a k m => match a with
  | .str z => match k with
    | .int i => if z.length ≤ sizeLine then (atI z.cps.toList i).map fun c => (.str ⟨#[c]⟩, m) else none
    | _ => none
  | .loc l => match m[l]? with
    | some (.dict kvs _) => if kindOk kvs k = true then (dGet kvs k).map fun v => (v, m) else none
    | some (.lst xs) => match k with
      | .int i => (atI xs i).map fun v => (v, m)
      | _ => none
    | _ => none
  | .tup xs => match k with
    | .int i => (atI xs i).map fun v => (v, m)
    | _ => none
  | .seq xs => match k with
    | .int i => (atI xs i).map fun v => (v, m)
    | _ => none
  | _ => none
theorem RVs.atI {G : Gx} {H : Hp} {β : List Pl} {ds : List D} {vs : List V} {i : Int} {d : D} (h : RVs G H β vs ds) (e : atI ds i = some d) : ∃ v, L2.atI vs i = some v ∧ RV G H β v d := by
  unfold L2.atI at e ⊢
  rw [h.length]
  cases q : ixN ds.length i with
  | none => rw [q] at e; cases e
  | some j =>
    rw [q] at e
    exact h.get (show ds[j]? = some d from e)
section
variable {G : Gx} {X : Cx}
theorem opIx_ok (on : On G X) (hu : X.A.units + 64 < cLine) : IxR X (rO2 G opIx) := by
  intro value slice pins s σ H x y v u Q I rx ry ⟨β, m, a, k, rp, ra, rk, h⟩ hs
  have seqs : ∀ {ds : List D} {i : Int} {p : Addr} {zs : List V}, x = .ref p → (SqL G.K H p zs ∨ SqT G.K H p zs) → RVs G H β zs ds → y = .int i → PostO G H β Q ((atI ds i).map fun v => (v, m)) → wpAny (model X.prog X.w) X.A (subscriptTail value slice v u) (EP X pins σ Q) X.xe s := by
    intro ds i p zs hx hq hz hy hp
    subst hx hy
    cases e : atI ds i with
    | none => rw [e] at hp; exact hp.elim
    | some d =>
      rw [e] at hp
      obtain ⟨w, e1, r1⟩ := hz.atI e
      rcases hq with hq | hq
      · exact ix_list value slice pins s σ H _ _ v u Q I rx ry ⟨p, zs, i, w, rfl, rfl, on.K ▸ hq, e1, Post.same hp rp r1⟩ hs
      · exact ix_tup value slice pins s σ H _ _ v u Q I rx ry ⟨p, zs, i, w, rfl, rfl, on.K ▸ hq, e1, Post.same hp rp r1⟩ hs
  unfold opIx at h
  split at h
  · split at h
    · split at h
      · rename_i z _ i c
        simp only [RV] at ra rk; subst ra rk
        cases e : atI z.cps.toList i with
        | none => rw [e] at h; exact h.elim
        | some ch =>
          rw [e] at h
          exact ix_str value slice pins s σ H _ _ v u Q I rx ry ⟨z, i, ch, rfl, rfl, c, e, Post.str h rp⟩ hs
      · exact h.elim
    · exact h.elim
  · split at h
    · rename_i kvs lk e
      split at h
      · rename_i hk
        obtain ⟨p, es, ep, rfl, _, hsy, hl, h2, h3⟩ := rp.dict e ra
        cases hd : dGet kvs k with
        | none => rw [hd] at h; exact h.elim
        | some d =>
          rw [hd] at h
          cases rx
          obtain ⟨ob, ep, z1, z2, z3⟩ := dictO_at I h2
          refine tail_any (T := "dict") ⟨ob, z1, z2.1⟩ slot_dict_getitem.lookup ?_ hs
          exact dget_ok on hu I h2 h3 hk rk ry hd fun z w s' I' rz rv => ⟨z, H, I', rz, Post.same h rp rv⟩
      · exact h.elim
    · rename_i xs e
      split at h
      · obtain ⟨p, zs, rfl, _, h1, h2⟩ := rp.lst e ra
        simp only [RV] at rk
        exact seqs rfl (.inl (SqL.of h1)) h2 rk h
      · exact h.elim
    · exact h.elim
  · split at h
    · simp only [RV] at ra rk
      obtain ⟨p, zs, e, h1, h2⟩ := ra
      exact seqs e (.inr h1.sq) h2 rk h
    · exact h.elim
  · split at h
    · simp only [RV] at ra rk
      obtain ⟨p, zs, e, h1, h2⟩ := ra
      exact seqs e (.inl h1.sq) h2 rk h
    · exact h.elim
  · exact h.elim
end
section
variable {G : Gx} {X : Cx} {W : WX} {fe : FE} {a b : Expr} {da db : Den} {pos p2 : Pos}
theorem xix_ok (on : On G X) (hu : X.A.units + 64 < cLine) (ha : PE X a (tE G W fe da)) (hb : PE X b (tE G W fe db)) (hs : PlainIx b) : PE X (.Subscript a b pos) (tE G W fe (xBin opIx da db)) :=
  PE.imp (pe_ix (opIx_ok on hu) ha hb hs) fun _ _ _ h => bin_red (fun _ _ _ _ x => x) h
end
/-! ### a[lo:hi] -/
def cutD {α : Type} (xs : List α) (lo hi : Option Int) : List α := (xs.drop (HT.sIx xs.length 0 lo)).take (HT.sIx xs.length xs.length hi - HT.sIx xs.length 0 lo)
def opSl (a : D) (lo hi : Option Int) (m : Mem) : Option (D × Mem) := match a with
  | .str z => if z.length ≤ sizeLine then some (.str (L2.cutS z lo hi), m) else none
  | .tup xs => some (.tup (cutD xs lo hi), m)
  | .seq xs => some (.loc m.length, m ++ [.lst (cutD xs lo hi)])
  | .loc l => match m[l]? with
    | some (.lst xs) => some (.loc m.length, m ++ [.lst (cutD xs lo hi)])
    | _ => none
  | _ => none
theorem RVs.cutD {G : Gx} {H : Hp} {β : List Pl} {ds : List D} {vs : List V} (h : RVs G H β vs ds) (lo hi : Option Int) : RVs G H β (cutV vs lo hi) (Mn.cutD ds lo hi) := by
  unfold L2.cutV Mn.cutD
  rw [h.length]
  exact (h.drop _).take _
def rSlM (G : Gx) : V → Option Int → Option Int → Hp → VK → Prop := fun x lo hi H Q => ∃ β m a, Rp G H β m ∧ RV G H β x a ∧ PostO G H β Q (opSl a lo hi m)
section
variable {G : Gx} {X : Cx}
theorem opSl_ok (on : On G X) : SlR X (rSlM G) := by
  intro pins s σ H x v vl vu lo hi sl Q I rx hs pl pu ⟨β, m, a, rp, ra, h⟩
  unfold opSl at h
  split at h
  · rename_i z
    split at h
    · rename_i c
      simp only [RV] at ra; subst ra
      exact sl_str pins s σ H _ v vl vu lo hi sl Q I rx hs pl pu ⟨z, rfl, c, Post.str h rp⟩
    · exact h.elim
  · rename_i xs
    simp only [RV] at ra
    obtain ⟨p, zs, rfl, h1, h2⟩ := ra
    refine sl_tupF pins s σ H _ v vl vu lo hi sl Q I rx hs pl pu ⟨p, zs, rfl, on.K ▸ h1.sq, fun hw => ?_, fun _ l ob hl ho => Post.tup h rp (h2.cutD lo hi) hl ho⟩
    refine Post.same h rp ?_
    simp only [RV]
    refine ⟨p, zs, rfl, h1, ?_⟩
    have e : cutV zs lo hi = zs := by
      unfold cutV
      rw [hw.1, hw.2]
      simp
    have := h2.cutD lo hi
    rw [e] at this
    exact this
  · simp only [RV] at ra
    obtain ⟨p, zs, rfl, h1, h2⟩ := ra
    exact sl_list pins s σ H _ v vl vu lo hi sl Q I rx hs pl pu ⟨p, zs, rfl, on.K ▸ h1.sq, fun l hl => Post.lst h rp (h2.cutD lo hi) hl⟩
  · split at h
    · rename_i e
      obtain ⟨p, zs, rfl, _, h1, h2⟩ := rp.lst e ra
      exact sl_list pins s σ H _ v vl vu lo hi sl Q I rx hs pl pu ⟨p, zs, rfl, SqL.of h1, fun l hl => Post.lst h rp (h2.cutD lo hi) hl⟩
    · exact h.elim
  · exact h.elim
end
abbrev DenO := FE → Env → Mem → Out (Option Int)
def oNone : DenO := fun _ _ m => .ok none m
def oSome (a : Den) : DenO := fun fe ρ m => (a fe ρ m).bind fun x m1 => match x with
  | .int i => .ok (some i) m1
  | _ => .bad
def xSl (a : Den) (lo hi : DenO) : Den := fun fe ρ m => (a fe ρ m).bind fun x m1 => (lo fe ρ m1).bind fun l m2 => (hi fe ρ m2).bind fun h m3 => .ofO (opSl x l h m3)
def tOd (G : Gx) (W : WX) (fe : FE) (d : DenO) : TO := fun σ H Q => ∃ β m ρ, Rp G H β m ∧ RS G H β σ ρ ∧ GoodO G (fun c d H' => W c d σ H') H β (fun b _ H' _ => Q b H') (d fe ρ m)
section
variable {G : Gx} {X : Cx} {W : WX} {fe : FE} {a b : Expr} {da db : Den} {pos p2 : Pos} {lo hi : Option Expr} {dl dh : DenO}
theorem PO.imp {e : Option Expr} {t t' : TO} (h : PO X e t) (f : ∀ σ H Q, t' σ H Q → t σ H Q) : PO X e t' := ⟨fun pins s σ H Q I x => h.run pins s σ H Q I (f σ H Q x)⟩
theorem onone_ok : PO X none (tOd G W fe oNone) := PO.imp po_none fun σ H Q ⟨β, m, ρ, rp, rs, g⟩ => g β H Ext.refl rp
theorem osome_ok (ha : PE X a (tE G W fe da)) : PO X (some a) (tOd G W fe (oSome da)) := PO.imp (po_some ha) fun σ H Q h => by
  obtain ⟨β, m, ρ, rp, rs, g⟩ := h
  refine ⟨β, m, ρ, rp, rs, (GoodO.mono (GoodO.bind g) fun x m1 H1 β1 e1 rp1 g1 u ru => ?_).e⟩
  cases x with
  | int i => simp only [RV] at ru; subst ru; exact ⟨i, rfl, g1 β1 H1 Ext.refl rp1⟩
  | _ => exact False.elim g1
theorem xsl_ok (on : On G X) (ha : PE X a (tE G W fe da)) (hl : PO X lo (tOd G W fe dl)) (hh : PO X hi (tOd G W fe dh)) : PE X (.Subscript a (.Slice lo hi none p2) pos) (tE G W fe (xSl da dl dh)) := PE.imp (pe_slice (opSl_ok on) ha hl hh) fun σ H Q h => by
  obtain ⟨β, m, ρ, rp, rs, g⟩ := h
  refine ⟨β, m, ρ, rp, rs, (GoodO.mono (GoodO.bind (GoodE.iff.mp g)) fun x m1 H1 β1 e1 rp1 g1 u ru => ?_).e⟩
  refine ⟨β1, m1, ρ, rp1, rs.ext rp e1, GoodO.mono (GoodO.bind g1) fun l m2 H2 β2 e2 rp2 g2 => ?_⟩
  refine ⟨β2, m2, ρ, rp2, (rs.ext rp e1).ext rp1 e2, GoodO.mono (GoodO.bind g2) fun h m3 H3 β3 e3 rp3 g3 => ?_⟩
  exact ⟨β3, m3, x, rp3, RV.mono (e3.tl rp2) e3.bl _ _ (RV.mono (e2.tl rp1) e2.bl _ _ ru), GoodE.ofO g3.e⟩
end
/-! ### o.m(..) -/
/-- the type of a value that has methods -/
def tyD (m : Mem) : D → String
  | .str _ => "str"
  | .tup _ => "tuple"
  | .seq _ => "list"
  | .loc l => match m[l]? with
    | some (.lst _) => "list"
    | some (.dict _ _) => "dict"
    | _ => ""
  | _ => ""
abbrev OpM := D → OpN
def xMeth (fs : List (String × OpM)) (o : Den) (a : DenA) : Den := fun fe ρ m => (o fe ρ m).bind fun d m1 => match fs.lookup (tyD m1 d) with
  | some f => (a fe ρ m1).bind fun ds m2 => .ofO (f d ds m2)
  | none => .bad
/-- the method name of the type T does f -/
def MtD (G : Gx) (X : Cx) (name : Str) (T : String) (f : OpM) : Prop := ∃ id, PlainAttrs T ∧ Slot T name id ∧ typeOf (.builtin id) = pure (.type "method_descriptor") ∧
  ∀ (pins : List (Addr × Obj)) (s : Shared) (σ : L2.St) (H : Hp) (x : V) (xs : List V) (v : Value) (us : List Value) (Q : VK), L2.Inv X pins σ H s → RelV x v → Vals xs us → (∃ β m d ds, Rp G H β m ∧ RV G H β x d ∧ RVs G H β xs ds ∧ PostO G H β Q (f d ds m)) →
    wpAny (model X.prog X.w) X.A (call (.builtin id) (v :: us)) (EP X pins σ Q) X.xe s
section
variable {G : Gx} {X : Cx} {pins : List (Addr × Obj)} {σ : L2.St} {H : Hp} {s : Shared} {β : List Pl} {m : Mem}
theorem FzL.obj {a : Addr} {xs : List V} (hk : X.K = G.K) (I : L2.Inv X pins σ H s) (h : FzL G.K H a xs) : ∃ o, s.heap.get? a = some o ∧ o.cls = .type "list" ∧ o.dict = none := by
  obtain ⟨its, _, ⟨o, n, e, c, hd, _⟩, _⟩ := I.list (hk ▸ h.sq)
  exact ⟨o, e, c, hd⟩
theorem FzT.obj {a : Addr} {xs : List V} (hk : X.K = G.K) (I : L2.Inv X pins σ H s) (h : FzT G.K H a xs) : ∃ o, s.heap.get? a = some o ∧ o.cls = .type "tuple" ∧ o.dict = none := by
  rcases h with ⟨o, h, hd⟩ | ⟨o, its, n, h1, h2, h3, _⟩
  · obtain ⟨e, _, its, _, ob, e', c, _⟩ := I.hok a _ h
    rw [e] at e'
    cases e'
    exact ⟨o, e, c, hd⟩
  · exact ⟨o, I.kIn a o (hk ▸ h1), h2, h3⟩
theorem tyD_is {d : D} {x : V} {v : Value} {T : String} (on : On G X) (I : L2.Inv X pins σ H s) (rp : Rp G H β m) (rx : RelV x v) (rd : RV G H β x d) (h : tyD m d = T) (hn : T ≠ "") :
    s.TypeIs v T ∧ ∀ a, v = .ref a → ∃ ob, s.heap.get? a = some ob ∧ ob.dict = none := by
  cases d with
  | str z =>
    simp only [RV] at rd; subst rd
    obtain ⟨t, rfl⟩ := rx
    subst h
    exact ⟨typeIs_str s z t, fun _ e => nomatch e⟩
  | tup ds =>
    simp only [RV] at rd
    obtain ⟨a, xs, rfl, h1, _⟩ := rd
    cases rx
    subst h
    obtain ⟨o, e, c, hd⟩ := h1.obj on.K I
    exact ⟨⟨o, e, c⟩, fun b q => by cases q; exact ⟨o, e, hd⟩⟩
  | seq ds =>
    simp only [RV] at rd
    obtain ⟨a, xs, rfl, h1, _⟩ := rd
    cases rx
    subst h
    obtain ⟨o, e, c, hd⟩ := h1.obj on.K I
    exact ⟨⟨o, e, c⟩, fun b q => by cases q; exact ⟨o, e, hd⟩⟩
  | loc l =>
    simp only [tyD] at h
    split at h
    · rename_i xs e
      obtain ⟨p, zs, rfl, _, h1, h2⟩ := rp.lst e rd
      cases rx
      subst h
      obtain ⟨its, _, ⟨o, n, e, c, hd, _⟩, _⟩ := I.list (SqL.of (K := X.K) h1)
      exact ⟨⟨o, e, c⟩, fun b q => by cases q; exact ⟨o, e, hd⟩⟩
    · rename_i kvs lk e
      obtain ⟨p, es, ep, rfl, _, _, _, h2, _⟩ := rp.dict e rd
      cases rx
      subst h
      obtain ⟨o, ep, z1, z2, z3⟩ := dictO_at I h2
      exact ⟨⟨o, z1, z2.1⟩, fun b q => by cases q; exact ⟨o, z1, z2.2.1⟩⟩
    · exact absurd h.symm hn
  | _ => exact absurd h.symm hn
variable {W : WX} {fe : FE} {o e : Expr} {es : List Expr} {d : Den} {dA : DenA} {apos cpos : Pos} {name : Str} {fs : List (String × OpM)}
theorem meth_red {Q : VK} (h : tE G W fe (xMeth fs d dA) σ H Q) : tE G W fe d σ H fun x H1 => ∃ β1 m1 ρ D1 f, Rp G H1 β1 m1 ∧ RS G H1 β1 σ ρ ∧ RV G H1 β1 x D1 ∧ (tyD m1 D1, f) ∈ fs ∧ GoodO G (fun c d H' => W c d σ H') H1 β1 (fun ds m2 H2 β2 => RV G H2 β2 x D1 ∧ Rp G H2 β2 m2 ∧ PostO G H2 β2 Q (f D1 ds m2)) (dA fe ρ m1) := by
  obtain ⟨β, m, ρ, rp, rs, g⟩ := h
  refine ⟨β, m, ρ, rp, rs, (GoodO.mono (GoodO.bind (GoodE.iff.mp g)) fun x m1 H1 β1 e1 rp1 g1 u ru => ?_).e⟩
  cases q : fs.lookup (tyD m1 x) with
  | none => rw [q] at g1; exact False.elim g1
  | some f =>
    rw [q] at g1
    refine ⟨β1, m1, ρ, x, f, rp1, rs.ext rp e1, ru, ?_, GoodO.mono (GoodO.bind g1) fun ds m2 H2 β2 e2 rp2 g2 => ⟨RV.mono (e2.tl rp1) e2.bl _ _ ru, rp2, GoodE.ofO g2.e⟩⟩
    clear g1 g
    induction fs with
    | nil => simp at q
    | cons y ys ih =>
      obtain ⟨k, g⟩ := y
      rw [List.lookup_cons] at q
      by_cases c : (tyD m1 x == k) = true
      · rw [c] at q
        simp only [Option.some.injEq] at q
        have : tyD m1 x = k := by simpa using c
        rw [this, ← q]
        exact List.mem_cons_self
      · simp only [Bool.not_eq_true] at c
        rw [c] at q
        exact List.mem_cons_of_mem _ (ih q)
theorem xmeth_ok (on : On G X) (hm : ∀ T f, (T, f) ∈ fs → MtD G X name T f ∧ T ≠ "") (ho : PE X o (tE G W fe d)) (ha : PA X (e :: es) (tA G W fe dA)) (hbase : attributeBase o name X.env (eval o X.env) = eval o X.env)
    (hfew : ((backTo cpos (starEach (e :: es) X.env)).all (fun x => !x.1) && (backToKw cpos (keywordEach [] X.env)).all (fun x => x.1.isSome)
      && decide ((e :: es).length + ([] : List Keyword).length + (if ([] : List Keyword).isEmpty then 0 else 1) < 30)) = true)
    (hline : (apos.endLine == cpos.line) = true) (hs : starEach (e :: es) X.env = (false, eval e X.env) :: starEach es X.env) (hplain : (backTo cpos (starEach es X.env)).any (·.1) = false) :
    PE X (.Call (.Attribute o name apos) (e :: es) [] cpos) (tE G W fe (xMeth fs d dA)) := by
  refine ⟨fun pins s σ H Q I h => ?_⟩
  refine wpAny_Call_method_late hbase hfew hline rfl (thn (ho.run pins s σ H _ I (meth_red h)) fun v s1 ⟨x, H1, I1, r1, β1, m1, ρ, D1, f, rp1, rs1, rd1, hf, g1⟩ => ?_)
  obtain ⟨⟨id, pa, slot, hty, run⟩, hne⟩ := hm _ _ hf
  obtain ⟨h1, h2⟩ := tyD_is on I1 rp1 r1 rd1 rfl hne
  refine ⟨_, id, pa, slot, hty, h1, h2, ?_⟩
  have hA := ha.run cpos pins s1 σ H1 (fun xs H2 => ∃ β2 m2 ds, RV G H2 β2 x D1 ∧ Rp G H2 β2 m2 ∧ RVs G H2 β2 xs ds ∧ PostO G H2 β2 Q (f D1 ds m2)) I1 ⟨β1, m1, ρ, rp1, rs1, GoodO.mono g1 fun ds m2 H2 β2 e2 rp2 g2 vs rvs => ⟨β2, m2, ds, g2.1, g2.2.1, rvs, g2.2.2⟩⟩
  rw [hs] at hA ⊢
  refine Calls.callWith_builtin (by show (false || (backTo cpos (starEach es X.env)).any (·.1)) = false; rw [hplain] <;> rfl) (Calls.evalArgs_plain ?_)
  exact thn hA fun us s2 ⟨vs, H2, I2, r2, β2, m2, ds, k1, k2, k3, k4⟩ => run pins s2 σ H2 x vs v us Q I2 r1 r2 ⟨β2, m2, D1, ds, k2, k1, k3, k4⟩
theorem xmeth0_ok (on : On G X) (hm : ∀ T f, (T, f) ∈ fs → MtD G X name T f ∧ T ≠ "") (ho : PE X o (tE G W fe d)) (hbase : attributeBase o name X.env (eval o X.env) = eval o X.env) (hline : (apos.endLine == cpos.line) = true) :
    PE X (.Call (.Attribute o name apos) [] [] cpos) (tE G W fe (xMeth fs d aNil)) := by
  refine ⟨fun pins s σ H Q I h => ?_⟩
  refine wpAny_Call_method0_late hbase hline (thn (ho.run pins s σ H _ I (meth_red h)) fun v s1 ⟨x, H1, I1, r1, β1, m1, ρ, D1, f, rp1, rs1, rd1, hf, g1⟩ => ?_)
  obtain ⟨⟨id, pa, slot, hty, run⟩, hne⟩ := hm _ _ hf
  obtain ⟨h1, h2⟩ := tyD_is on I1 rp1 r1 rd1 rfl hne
  obtain ⟨k1, k2, k3⟩ := g1 β1 H1 Ext.refl rp1
  exact ⟨_, id, pa, slot, hty, h1, h2, Calls.callWith_builtin rfl (PySem.evalArgs_none (run pins s1 σ H1 x [] v [] Q I1 r1 .nil ⟨β1, m1, D1, [], k2, k1, RVs.nil, k3⟩))⟩
end
end Mn
set_option Elab.async false
set_option linter.all false
set_option maxRecDepth 100000
set_option maxHeartbeats 1000000
/-! Mn10: methods. -/
namespace Mn
open PySem L2 PySem.Spec PyProof.Rows PyProof.V PySem.W PySem.Calls PySem.SeqAt
section
variable {G : Gx} {H : Hp} {β : List Pl} {m : Mem} {Q : VK}
theorem Post.wlst {l : Nat} {a : Addr} {xs' : List V} {ds' : List D} {d : D} {v : V} (h : Post G H β (m.set l (.lst ds')) d Q) (r : Rp G H β m) (ha : β[l]? = some (a, false)) (rv : RVs G H β xs' ds') (rd : RV G H β v d) : Q v (upd H a (.lst xs')) := by
  have x := Ext.write (H := H) (ob := .lst xs') ha
  have t := x.tl r
  exact h v β _ x (r.write ha rfl ⟨xs', upd_same, RVs.mono t (BL.refl _) _ _ rv⟩) (RV.mono t (BL.refl _) _ _ rd)
end
/-! ### lists that are written -/
def fAppend : OpM := fun d ds m => match d, ds with
  | .loc l, [y] => match m[l]? with
    | some (.lst xs) => if xs.length < sizeLine then some (.non, m.set l (.lst (xs ++ [y]))) else none
    | _ => none
  | _, _ => none
def fExtend : OpM := fun d ds m => match d, ds with
  | .loc l, [.loc k] => match m[l]?, m[k]? with
    | some (.lst xs), some (.lst ys) => if xs.length + ys.length ≤ sizeLine then some (.non, m.set l (.lst (xs ++ ys))) else none
    | _, _ => none
  | _, _ => none
def fPop : OpM := fun d ds m => match d, ds with
  | .loc l, [] => match m[l]? with
    | some (.lst xs) => (xs[xs.length - 1]?).map fun y => (y, m.set l (.lst xs.dropLast))
    | _ => none
  | .loc l, [.int 0] => match m[l]? with
    | some (.lst (y :: xs)) => some (y, m.set l (.lst xs))
    | _ => none
  | _, _ => none
section
variable {G : Gx} {X : Cx}
theorem nonRV {H : Hp} {β : List Pl} : RV G H β .non .non := by simp [RV]
theorem fAppend_ok (on : On G X) : MtD G X "append" "list" fAppend := by
  refine ⟨"list.append", PySem.F.plainAttrs_list, PySem.F.slot_list_append, PySem.F.type_list_append, fun pins s σ H x xs v us Q I rx rxs ⟨β, m, d, ds, rp, rd, rds, h⟩ => ?_⟩
  unfold fAppend at h
  split at h
  · split at h
    · rename_i l y ys e
      split at h
      · rename_i c
        obtain ⟨p, zs, rfl, ha, h1, h2⟩ := rp.lst e rd
        obtain ⟨w, rfl, rw'⟩ := rds.split1
        exact mt_append pins s σ H _ _ v us Q I rx rxs ⟨p, zs, w, rfl, rfl, h1, by rw [h2.length]; exact c, Post.wlst h rp ha (h2.append (RVs.one rw')) nonRV⟩
      · exact h.elim
    · exact h.elim
  · exact h.elim
theorem fExtend_ok (on : On G X) : MtD G X "extend" "list" fExtend := by
  refine ⟨"list.extend", PySem.F.plainAttrs_list, PySem.F.slot_list_extend, PySem.F.type_list_extend, fun pins s σ H x xs v us Q I rx rxs ⟨β, m, d, ds, rp, rd, rds, h⟩ => ?_⟩
  unfold fExtend at h
  split at h
  · split at h
    · rename_i l k ys zs e1 e2
      split at h
      · rename_i c
        obtain ⟨p, vs, rfl, ha, h1, h2⟩ := rp.lst e1 rd
        obtain ⟨w, rfl, rw'⟩ := rds.split1
        obtain ⟨q, ws, rfl, _, h3, h4⟩ := rp.lst e2 rw'
        exact mt_extend pins s σ H _ _ v us Q I rx rxs ⟨p, q, vs, ws, rfl, rfl, h1, h3, by rw [h2.length, h4.length]; exact c, Post.wlst h rp ha (h2.append h4) nonRV⟩
      · exact h.elim
    · exact h.elim
  · exact h.elim
theorem RVs.dropLast {H : Hp} {β : List Pl} {ds : List D} {vs : List V} (h : RVs G H β vs ds) : RVs G H β vs.dropLast ds.dropLast := by
  rw [List.dropLast_eq_take, List.dropLast_eq_take, h.length]
  exact h.take _
theorem fPop_ok (on : On G X) : MtD G X "pop" "list" fPop := by
  refine ⟨"list.pop", PySem.F.plainAttrs_list, PySem.F.slot_list_pop, PySem.F.type_list_pop, fun pins s σ H x xs v us Q I rx rxs ⟨β, m, d, ds, rp, rd, rds, h⟩ => ?_⟩
  unfold fPop at h
  split at h
  · split at h
    · rename_i ys e
      obtain ⟨p, vs, rfl, ha, h1, h2⟩ := rp.lst e rd
      simp only [RVs] at rds; subst rds
      cases q : ys[ys.length - 1]? with
      | none => rw [q] at h; exact h.elim
      | some y =>
        rw [q] at h
        obtain ⟨w, e1, r1⟩ := h2.get q
        exact mt_pop pins s σ H _ _ v us Q I rx rxs ⟨p, vs, w, rfl, rfl, h1, by rw [h2.length]; exact e1, Post.wlst h rp ha h2.dropLast r1⟩
    · exact h.elim
  · split at h
    · rename_i y ys e
      obtain ⟨p, vs, rfl, ha, h1, h2⟩ := rp.lst e rd
      obtain ⟨w, rfl, rw'⟩ := rds.split1
      simp only [RV] at rw'; subst rw'
      cases vs with
      | nil => simp [RVs] at h2
      | cons z zs =>
        obtain ⟨r1, r2⟩ := h2.uncons
        refine mt_popAt pins s σ H _ _ v us Q I rx rxs ⟨p, z :: zs, 0, 0, z, rfl, rfl, h1, by decide, by decide, ?_, rfl, Post.wlst h rp ha r2 r1⟩
        simp [seqIndex?]
    · exact h.elim
  · exact h.elim
end
/-! ### index, count -/
def fIndexL : OpM := fun d ds m => match ds with
  | [y] => match listM m d with
    | some xs => if pureD 12 y = true ∧ pureDs 11 xs = true then (xs.findIdx? fun z => eqv z y).map fun j => (.int (j : Nat), m) else none
    | none => none
  | _ => none
def fIndexT : OpM := fun d ds m => match d, ds with
  | .tup xs, [y] => if pureD 12 y = true ∧ pureDs 11 xs = true then (xs.findIdx? fun z => eqv z y).map fun j => (.int (j : Nat), m) else none
  | _, _ => none
def fCountL : OpM := fun d ds m => match ds with
  | [y] => match listM m d with
    | some xs => if pureD 12 y = true ∧ pureDs 11 xs = true then some (.int ((xs.countP fun z => eqv z y : Nat) : Int), m) else none
    | none => none
  | _ => none
def fCountT : OpM := fun d ds m => match d, ds with
  | .tup xs, [y] => if pureD 12 y = true ∧ pureDs 11 xs = true then some (.int ((xs.countP fun z => eqv z y : Nat) : Int), m) else none
  | _, _ => none
section
variable {G : Gx} {X : Cx} {pins : List (Addr × Obj)} {σ : L2.St} {H : Hp} {s : Shared} {β : List Pl} {m : Mem}
theorem reads_items {zs : List V} {us : List Value} {xs : List D} (on : On G X) (I : L2.Inv X pins σ H s) (rp : Rp G H β m) (hp : pureDs 11 xs = true) (rv : RVs G H β zs xs) (r : Vals zs us) : ∃ as, ReadsAll s.heap us (toPys xs) as := by
  have := rd_dps (fun d x v => rd_dp rp 11 d x v) (mapM_some (pure_rds (m := m) 11 xs hp)) rv
  exact Dp.readsAll I _ _ _ (on.K ▸ this) r
theorem reads_one {x : V} {u : Value} {d : D} (on : On G X) (I : L2.Inv X pins σ H s) (rp : Rp G H β m) (hp : pureD 12 d = true) (rv : RV G H β x d) (r : RelV x u) : ∃ as, Reads s.heap u (toPy d) as :=
  Dp.reads I _ _ _ (on.K ▸ rd_dp rp _ _ _ _ (pure_rd 12 d hp) rv) r
theorem pures_lay {xs : List D} (hp : pureDs 11 xs = true) : PyData.canLayAll0 (toPys xs) = true ∧ PyData.depthAll (toPys xs) ≤ 11 := by
  have := rd_ok (m := []) 12 (.tup xs) (.tuple (toPys xs)) (by rw [pure_rd 12 (.tup xs) (by simpa [pureD] using hp)]; simp [toPy])
  refine ⟨by simpa [PyData.canLay0] using this.1, ?_⟩
  have h2 := this.2
  simp only [PyData.depth] at h2
  omega
theorem plain_all : ∀ {ds : List PyData}, PyData.canLayAll0 ds = true → PyData.plainAll ds = true
  | [], _ => by simp [PyData.plainAll]
  | d :: ds, h => by
    obtain ⟨h1, h2⟩ := lay_cons h
    simp [PyData.plainAll, PyData.plain_of_canLay0 d h1, plain_all h2]
theorem place_eq {xs : List D} {y : D} (hp : pureDs 11 xs = true) (hy : pureD 12 y = true) : dataPlace (toPys xs) (toPy y) = xs.findIdx? fun z => eqv z y := by
  unfold dataPlace
  rw [toPys_map]
  induction xs with
  | nil => rfl
  | cons x xs ih =>
    simp only [pureDs, Bool.and_eq_true] at hp
    simp only [List.map_cons, List.findIdx?_cons, ih hp.2, eqv_py 11 12 x y hp.1 hy]
theorem countP_eq {xs : List D} {y : D} (hp : pureDs 11 xs = true) (hy : pureD 12 y = true) : ((toPys xs).countP fun z => PyData.eqv z (toPy y)) = xs.countP fun z => eqv z y := by
  rw [toPys_map]
  induction xs with
  | nil => rfl
  | cons x xs ih =>
    simp only [pureDs, Bool.and_eq_true] at hp
    simp only [List.map_cons, List.countP_cons, ih hp.2, eqv_py 11 12 x y hp.1 hy]
theorem fIndexL_ok (on : On G X) (hu : X.A.units + 64 < cLine) : MtD G X "index" "list" fIndexL := by
  refine ⟨"list.index", PySem.F.plainAttrs_list, PySem.F.slot_list_index, PySem.F.type_list_index, fun pins s σ H x xs v us Q I rx rxs ⟨β, m, d, ds, rp, rd, rds, h⟩ => ?_⟩
  unfold fIndexL at h
  split at h
  · rename_i y
    split at h
    · rename_i ys e
      split at h
      · rename_i c
        obtain ⟨p, zs, rfl, h1, h2⟩ := listM_sq rp e rd
        obtain ⟨w, rfl, rw'⟩ := rds.split1
        obtain ⟨uy, rfl, ry⟩ := vals1 rxs
        cases rx
        obtain ⟨its, rv, ⟨⟨cls, dd, data, sls⟩, n, ho, hc, hdn, hdt⟩, hlen⟩ := I.list (on.K ▸ h1)
        simp only at hc hdt
        subst hc hdt
        obtain ⟨as, h4⟩ := reads_items on I rp c.2 h2 rv
        obtain ⟨bs, r1⟩ := reads_one on I rp c.1 rw' ry
        obtain ⟨l1, l2⟩ := pures_lay c.2
        cases q : ys.findIdx? (fun z => eqv z y) with
        | none => rw [q] at h; exact h.elim
        | some j =>
          rw [q] at h
          have hpl : dataPlace (toPys ys) (toPy y) = some j := by rw [place_eq c.2 c.1, q]
          have hh := hit_at (vs := its.toArray) (d := toPy y) h4 (plain_all l1) hpl
          obtain ⟨hj, hit, hno⟩ := hh
          refine call_meets PySem.F.slot_list_index ⟨_, ho, rfl⟩ PySem.F.entry_list_index (PySem.F.args_list_index_2 _ _)
            (SeqAt.list_indexAt p its.toArray n dd sls uy (fun u => PyData.eqv (SeqAt.readOf s.heap u) (toPy y)) j hj (by have a1 := rv.length; have a2 : j < its.length := (by simpa using hj); have a3 := sizeLine_eq; omega) hit hno) ⟨ho, SeqAt.items_eqAt (vs := its.toArray) (show ReadsAll s.heap its.toArray.toList (toPys ys) as from h4) r1 l1 (rd_ok (m := m) 12 _ _ (pure_rd 12 y c.1)).1 (by have := Nat.min_le_left (PyData.depthAll (toPys ys)) (toPy y).depth; have e : X.A.in1.units = X.A.units + 1 := rfl; omega), ?_⟩
          exact ⟨.int (j : Nat), H, I.tok _, ⟨_, rfl⟩, Post.int h rp⟩
      · exact h.elim
    · exact h.elim
  · exact h.elim
theorem fIndexT_ok (on : On G X) (hu : X.A.units + 64 < cLine) : MtD G X "index" "tuple" fIndexT := by
  refine ⟨"tuple.index", PySem.F.plainAttrs_tuple, PySem.F.slot_tuple_index, PySem.F.type_tuple_index, fun pins s σ H x xs v us Q I rx rxs ⟨β, m, d, ds, rp, rd, rds, h⟩ => ?_⟩
  unfold fIndexT at h
  split at h
  · rename_i ys y
    split at h
    · rename_i c
      simp only [RV] at rd
      obtain ⟨p, zs, rfl, h1, h2⟩ := rd
      obtain ⟨w, rfl, rw'⟩ := rds.split1
      obtain ⟨uy, rfl, ry⟩ := vals1 rxs
      cases rx
      obtain ⟨its, rv, ⟨⟨cls, dd, data, sls⟩, ho, hc, n, hdt⟩, hlen⟩ := I.tuple (on.K ▸ h1.sq)
      simp only at hc hdt
      subst hc hdt
      obtain ⟨as, h4⟩ := reads_items on I rp c.2 h2 rv
      obtain ⟨bs, r1⟩ := reads_one on I rp c.1 rw' ry
      obtain ⟨l1, l2⟩ := pures_lay c.2
      cases q : ys.findIdx? (fun z => eqv z y) with
      | none => rw [q] at h; exact h.elim
      | some j =>
        rw [q] at h
        have hpl : dataPlace (toPys ys) (toPy y) = some j := by rw [place_eq c.2 c.1, q]
        obtain ⟨hj, hit, hno⟩ := hit_at (vs := its.toArray) (d := toPy y) h4 (plain_all l1) hpl
        refine call_meets PySem.F.slot_tuple_index ⟨_, ho, rfl⟩ PySem.F.entry_tuple_index (PySem.F.args_tuple_index_2 _ _)
          (TI.tuple_indexAt p its.toArray n dd sls uy (fun u => PyData.eqv (SeqAt.readOf s.heap u) (toPy y)) j hj hit hno) ⟨ho, SeqAt.items_eqAt (vs := its.toArray) (show ReadsAll s.heap its.toArray.toList (toPys ys) as from h4) r1 l1 (rd_ok (m := m) 12 _ _ (pure_rd 12 y c.1)).1 (by have := Nat.min_le_left (PyData.depthAll (toPys ys)) (toPy y).depth; have e : X.A.in1.units = X.A.units + 1 := rfl; omega), ?_⟩
        exact ⟨.int (j : Nat), H, I.tok _, ⟨_, rfl⟩, Post.int h rp⟩
    · exact h.elim
  · exact h.elim
theorem fCountL_ok (on : On G X) (hu : X.A.units + 64 < cLine) : MtD G X "count" "list" fCountL := by
  refine ⟨"list.count", PySem.F.plainAttrs_list, PySem.F.slot_list_count, PySem.F.type_list_count, fun pins s σ H x xs v us Q I rx rxs ⟨β, m, d, ds, rp, rd, rds, h⟩ => ?_⟩
  unfold fCountL at h
  split at h
  · rename_i y
    split at h
    · rename_i ys e
      split at h
      · rename_i c
        obtain ⟨p, zs, rfl, h1, h2⟩ := listM_sq rp e rd
        obtain ⟨w, rfl, rw'⟩ := rds.split1
        obtain ⟨uy, rfl, ry⟩ := vals1 rxs
        cases rx
        obtain ⟨its, rv, pl, hlen⟩ := I.list (on.K ▸ h1)
        obtain ⟨as, h4⟩ := reads_items on I rp c.2 h2 rv
        obtain ⟨bs, r1⟩ := reads_one on I rp c.1 rw' ry
        obtain ⟨l1, l2⟩ := pures_lay c.2
        refine count_list_data (vs := its.toArray) (xs := toPys ys) (d := toPy y) pl.isList h4 r1 (plain_all l1) (PyData.plain_of_canLay0 _ (rd_ok (m := m) 12 _ _ (pure_rd 12 y c.1)).1) (by have := Nat.min_le_left (PyData.depthAll (toPys ys)) (toPy y).depth; omega) ?_
        refine ⟨.int _, H, I.tok _, ⟨_, rfl⟩, ?_⟩
        rw [countP_eq c.2 c.1]
        exact Post.int h rp
      · exact h.elim
    · exact h.elim
  · exact h.elim
theorem fCountT_ok (on : On G X) (hu : X.A.units + 64 < cLine) : MtD G X "count" "tuple" fCountT := by
  refine ⟨"tuple.count", PySem.F.plainAttrs_tuple, PySem.F.slot_tuple_count, PySem.F.type_tuple_count, fun pins s σ H x xs v us Q I rx rxs ⟨β, m, d, ds, rp, rd, rds, h⟩ => ?_⟩
  unfold fCountT at h
  split at h
  · rename_i ys y
    split at h
    · rename_i c
      simp only [RV] at rd
      obtain ⟨p, zs, rfl, h1, h2⟩ := rd
      obtain ⟨w, rfl, rw'⟩ := rds.split1
      obtain ⟨uy, rfl, ry⟩ := vals1 rxs
      cases rx
      obtain ⟨its, rv, pl, hlen⟩ := I.tuple (on.K ▸ h1.sq)
      obtain ⟨as, h4⟩ := reads_items on I rp c.2 h2 rv
      obtain ⟨bs, r1⟩ := reads_one on I rp c.1 rw' ry
      obtain ⟨l1, l2⟩ := pures_lay c.2
      refine count_tuple_data (vs := its.toArray) (xs := toPys ys) (d := toPy y) pl h4 r1 (plain_all l1) (PyData.plain_of_canLay0 _ (rd_ok (m := m) 12 _ _ (pure_rd 12 y c.1)).1) (by have := Nat.min_le_left (PyData.depthAll (toPys ys)) (toPy y).depth; omega) ?_
      refine ⟨.int _, H, I.tok _, ⟨_, rfl⟩, ?_⟩
      rw [countP_eq c.2 c.1]
      exact Post.int h rp
    · exact h.elim
  · exact h.elim
end
/-! ### dicts -/
def fGet : OpM := fun d ds m => match d, ds with
  | .loc l, [k, x] => match m[l]? with
    | some (.dict kvs _) => if kindOk kvs k = true then some ((dGet kvs k).getD x, m) else none
    | _ => none
  | .loc l, [k] => match m[l]? with
    | some (.dict kvs _) => if kindOk kvs k = true then some ((dGet kvs k).getD .non, m) else none
    | _ => none
  | _, _ => none
def fSetd : OpM := fun d ds m => match d, ds with
  | .loc l, [k, x] => match m[l]? with
    | some (.dict kvs false) => if kindOk kvs k = true ∧ kvs.length < sizeLine then (match dGet kvs k with
      | some v => some (v, m)
      | none => some (x, m.set l (.dict (dPut kvs k x) false))) else none
    | _ => none
  | _, _ => none
section
variable {G : Gx} {X : Cx} {pins : List (Addr × Obj)} {σ : L2.St} {H : Hp} {s : Shared} {β : List Pl} {m : Mem} {A : Around} {E : Value → Shared → Prop} {a : Addr} {es : Array DictEntry} {ep : Nat} {kvs : List (D × D)} {k : D} {y : V} {u : Value}
/-- d.get(y) -/
theorem dget1_ok {Q : Value → Shared → Prop} (on : On G X) (hu : A.units + 64 < cLine) (I : L2.Inv X pins σ H s) (hs : (a == sysModules) = false) (h : H a = some (dictO a es ep)) (e : EntM G H β es kvs ∨ EntN G H β es kvs) (hk : kindOk kvs k = true) (ry : RV G H β y k) (ru : RelV y u)
    (hq : ∀ z w s', L2.Inv X pins σ H s' → RelV z w → RV G H β z ((dGet kvs k).getD .non) → Q w s') : wpAny (model X.prog X.w) A (call (.builtin "dict.get") [.ref a, u]) Q E s := by
  rcases kind_cases hk with ⟨k', e1, e2⟩ | ⟨k', e1, e2, ⟨xs, e3⟩, e4⟩
  · obtain ⟨ks, dd, pm⟩ := dict_M on I h e e2
    have yk := keyM_kV e1 ry
    subst yk
    rcases pm.get e1 with ⟨h1, h2⟩ | ⟨d', w, h1, h2, z, h3, h4⟩
    · refine call_meetsIn PySem.F.slot_dict_get dd.typeIs PySem.F.entry_dict_get (PySem.F.args_dict_get_2 _ _) (meets_dict_get (mixKind X.prog X.w) a (kV_is ru) hs) ⟨_, dd.mapOf, ?_⟩
      rw [h2]
      exact hq .non .none _ (I.tok _) rfl (by rw [h1]; simp [RV])
    · refine call_meetsIn PySem.F.slot_dict_get dd.typeIs PySem.F.entry_dict_get (PySem.F.args_dict_get_2 _ _) (meets_dict_get (mixKind X.prog X.w) a (kV_is ru) hs) ⟨_, dd.mapOf, ?_⟩
      rw [h2]
      exact hq z w _ (I.tok _) h3 (by rw [h1]; exact h4)
  · obtain ⟨ks, dd, pn⟩ := dict_N on I h e e4
    subst e3
    have ry' := ry
    simp only [RV] at ry'
    obtain ⟨b, ys, rfl, _, _⟩ := ry'
    cases ru
    refine call_meetsIn PySem.F.slot_dict_get dd.typeIs PySem.F.entry_dict_get (PySem.F.args_dict_get_2 _ _) (meetsH_dict_get (nestedKind X.prog X.w) a b hs) ⟨nroom hu, k', ks, ⟨nested_is on I _ _ _ _ e1 ry rfl, e2⟩, dd, ?_⟩
    rcases pn.get e1 with ⟨h1, h2⟩ | ⟨d', b', w, h1, h2, z, h3, h4⟩
    · rw [h2]
      exact hq .non .none _ (I.tok _) rfl (by rw [h1]; simp [RV])
    · rw [h2]
      exact hq z w _ (I.tok _) h3 (by rw [h1]; exact h4)
/-- d.setdefault(y, x) -/
theorem dsetd_ok {l : Nat} {x : D} {xv : V} {xu : Value} {Q : Value → Shared → Prop} (on : On G X) (hu : A.units + 64 < cLine) (I : L2.Inv X pins σ H s) (rp : Rp G H β m) (ha : β[l]? = some (a, false)) (hs : (a == sysModules) = false) (hl : kvs.length < sizeLine) (h : H a = some (dictO a es ep)) (e : EntM G H β es kvs ∨ EntN G H β es kvs) (hk : kindOk kvs k = true) (ry : RV G H β y k) (ru : RelV y u)
    (rx : RV G H β xv x) (rxu : RelV xv xu) (h1 : ∀ d z w s', dGet kvs k = some d → L2.Inv X pins σ H s' → RelV z w → RV G H β z d → Q w s')
    (h2 : dGet kvs k = none → ∀ es' ep' s', L2.Inv X pins σ (upd H a (dictO a es' ep')) s' → Rp G (upd H a (dictO a es' ep')) β (m.set l (.dict (dPut kvs k x) false)) → Q xu s') : wpAny (model X.prog X.w) A (call (.builtin "dict.setdefault") [.ref a, u, xu]) Q E s := by
  have hz : (dPut kvs k x).length ≤ sizeLine := by have := length_dPut kvs k x; omega
  rcases kind_cases hk with ⟨k', e1, e2⟩ | ⟨k', e1, e2, ⟨xs, e3⟩, e4⟩
  · obtain ⟨ks, dd, pm⟩ := dict_M on I h e e2
    have yk := keyM_kV e1 ry
    subst yk
    have hks : ks.length ≤ sizeLine := by rw [Paired.length pm]; omega
    refine call_meetsIn PySem.F.slot_dict_setdefault dd.typeIs PySem.F.entry_dict_setdefault (PySem.F.args_dict_setdefault_3 _ _ _) (kt_meets_setdefault (mixKind X.prog X.w) a (kV_is ru) hs xu) ⟨ks, dd, hks, fun v hv => ?_, fun hn h' dd' hsb => ?_⟩
    · rcases pm.get e1 with ⟨h1', h2'⟩ | ⟨d', w, h1', h2', z, h3, h4⟩
      · rw [h2'] at hv; cases hv
      · rw [h2'] at hv; cases hv
        exact h1 d' z _ _ h1' (I.tok _) h3 h4
    · rcases pm.get e1 with ⟨h1', h2'⟩ | ⟨d', w, h1', h2', z, h3, h4⟩
      · obtain ⟨es', ep', I', rp'⟩ := stored_M (t' := s.toks + 1) on I rp ha hs h hz dd' hsb (pm.put e1 ⟨xv, rxu, rx⟩)
        exact h2 h1' es' ep' _ I' rp'
      · rw [h2'] at hn; cases hn
  · obtain ⟨ks, dd, pn⟩ := dict_N on I h e e4
    subst e3
    have ry' := ry
    simp only [RV] at ry'
    obtain ⟨b, ys, rfl, _, _⟩ := ry'
    cases ru
    have hks : ks.length ≤ sizeLine := by rw [Paired.length pn]; omega
    refine call_setdefault_heap (knd := nestedKind X.prog X.w) (k := k') (hsz := hks) (nroom hu) ⟨nested_is on I _ _ _ _ e1 ry rfl, e2⟩ hs dd (fun p hp => ?_) fun hn h' dd' hsb => ?_
    · rcases pn.get e1 with ⟨h1', h2'⟩ | ⟨d', b', w, h1', h2', z, h3, h4⟩
      · rw [h2'] at hp; cases hp
      · rw [h2'] at hp; cases hp
        exact h1 d' z w _ h1' (I.tok _) h3 h4
    · rcases pn.get e1 with ⟨h1', h2'⟩ | ⟨d', b', w, h1', h2', z, h3, h4⟩
      · obtain ⟨es', ep', I', rp'⟩ := stored_N (t' := s.toks + (nestedKind X.prog X.w).draws k') on I rp ha hs h hz dd' hsb (pn.put e1 e2 ry ⟨xv, rxu, rx⟩)
        exact h2 h1' es' ep' _ I' rp'
      · rw [h2'] at hn; cases hn
end
section
variable {G : Gx} {X : Cx}
theorem fGet_ok (on : On G X) (hu : X.A.units + 64 < cLine) : MtD G X "get" "dict" fGet := by
  refine ⟨"dict.get", PySem.F.plainAttrs_dict, PySem.F.slot_dict_get, PySem.F.type_dict_get, fun pins s σ H x xs v us Q I rx rxs ⟨β, m, d, ds, rp, rd, rds, h⟩ => ?_⟩
  unfold fGet at h
  split at h
  · split at h
    · rename_i kvs lk e
      split at h
      · rename_i hk
        obtain ⟨p, es, ep, rfl, _, hsy, hl, h2, h3⟩ := rp.dict e rd
        obtain ⟨w1, w2, rfl, q1, q2⟩ := rds.split2
        obtain ⟨u1, u2, rfl, r1, r2⟩ := vals2 rxs
        cases rx
        exact dget2_ok on hu I hsy h2 h3 hk q1 r1 q2 r2 fun z w s' I' rz rv => ⟨z, H, I', rz, Post.same h rp rv⟩
      · exact h.elim
    · exact h.elim
  · split at h
    · rename_i kvs lk e
      split at h
      · rename_i hk
        obtain ⟨p, es, ep, rfl, _, hsy, hl, h2, h3⟩ := rp.dict e rd
        obtain ⟨w1, rfl, q1⟩ := rds.split1
        obtain ⟨u1, rfl, r1⟩ := vals1 rxs
        cases rx
        exact dget1_ok on hu I hsy h2 h3 hk q1 r1 fun z w s' I' rz rv => ⟨z, H, I', rz, Post.same h rp rv⟩
      · exact h.elim
    · exact h.elim
  · exact h.elim
theorem fSetd_ok (on : On G X) (hu : X.A.units + 64 < cLine) : MtD G X "setdefault" "dict" fSetd := by
  refine ⟨"dict.setdefault", PySem.F.plainAttrs_dict, PySem.F.slot_dict_setdefault, PySem.F.type_dict_setdefault, fun pins s σ H x xs v us Q I rx rxs ⟨β, m, d, ds, rp, rd, rds, h⟩ => ?_⟩
  unfold fSetd at h
  split at h
  · split at h
    · rename_i kvs e
      split at h
      · rename_i c
        obtain ⟨p, es, ep, rfl, ha, hsy, hl, h2, h3⟩ := rp.dict e rd
        obtain ⟨w1, w2, rfl, q1, q2⟩ := rds.split2
        obtain ⟨u1, u2, rfl, r1, r2⟩ := vals2 rxs
        cases rx
        refine dsetd_ok on hu I rp ha hsy c.2 h2 h3 c.1 q1 r1 q2 r2 (fun d' z w s' hd I' rz rv => ⟨z, H, I', rz, ?_⟩) fun hd es' ep' s' I' rp' => ⟨w2, _, I', r2, ?_⟩
        · rw [hd] at h; exact Post.same h rp rv
        · rw [hd] at h
          have xw := Ext.write (H := H) (ob := dictO p es' ep') ha
          exact (show Post G H β _ _ Q from h) w2 β _ xw rp' (RV.mono (xw.tl rp) (BL.refl _) _ _ q2)
      · exact h.elim
    · exact h.elim
  · exact h.elim
end
end Mn
set_option Elab.async false
set_option linter.all false
set_option maxRecDepth 100000
set_option maxHeartbeats 1000000
/-! Mn11: statements. -/
namespace Mn
open PySem L2 PySem.Spec PyProof.Rows
def GoodS (G : Gx) (W : WX) (D : Ends) (H : Hp) (β : List Pl) : OutS → Prop
  | .next ρ m' => ∀ σ' β' H', Ext β H H' β' → Rp G H' β' m' → RS G H' β' σ' ρ → D.nx σ' H'
  | .brk ρ m' => ∀ σ' β' H', Ext β H H' β' → Rp G H' β' m' → RS G H' β' σ' ρ → D.bk σ' H'
  | .cont ρ m' => ∀ σ' β' H', Ext β H H' β' → Rp G H' β' m' → RS G H' β' σ' ρ → D.ct σ' H'
  | .ret v m' => ∀ u β' H', Ext β H H' β' → Rp G H' β' m' → RV G H' β' u v → D.rt u H'
  | .exc c p ρ m' => ∀ cls dd σ' β' H', Ext β H H' β' → Rp G H' β' m' → RS G H' β' σ' ρ → RX G H' β' cls dd c p → W cls dd σ' H'
  | .bad => False
/-- the reading of statements -/
def tS (G : Gx) (W : WX) (fe : FE) (d : DenS) : TS := fun D σ H => ∃ β m ρ, Rp G H β m ∧ RS G H β σ ρ ∧ GoodS G W D H β (d fe ρ m)
def OutS.ofE {α : Type} (r : Out α) (ρ : Env) (k : α → Mem → OutS) : OutS := match r with
  | .ok a m => k a m
  | .exc c p m => .exc c p ρ m
  | .bad => .bad
@[simp] theorem OutS.ofE_ok {α : Type} (a : α) (m : Mem) (ρ : Env) (k : α → Mem → OutS) : OutS.ofE (.ok a m) ρ k = k a m := rfl
@[simp] theorem OutS.ofE_exc {α : Type} (c : Nat) (p : Option D) (m : Mem) (ρ : Env) (k : α → Mem → OutS) : OutS.ofE (.exc c p m : Out α) ρ k = .exc c p ρ m := rfl
@[simp] theorem OutS.ofE_bad {α : Type} (ρ : Env) (k : α → Mem → OutS) : OutS.ofE (.bad : Out α) ρ k = .bad := rfl
def OutS.seq (r : OutS) (k : Env → Mem → OutS) : OutS := match r with
  | .next ρ m => k ρ m
  | r => r
@[simp] theorem OutS.seq_next (ρ : Env) (m : Mem) (k : Env → Mem → OutS) : OutS.seq (.next ρ m) k = k ρ m := rfl
@[simp] theorem OutS.seq_ret (v : D) (m : Mem) (k : Env → Mem → OutS) : OutS.seq (.ret v m) k = .ret v m := rfl
@[simp] theorem OutS.seq_brk (ρ : Env) (m : Mem) (k : Env → Mem → OutS) : OutS.seq (.brk ρ m) k = .brk ρ m := rfl
@[simp] theorem OutS.seq_cont (ρ : Env) (m : Mem) (k : Env → Mem → OutS) : OutS.seq (.cont ρ m) k = .cont ρ m := rfl
@[simp] theorem OutS.seq_exc (c : Nat) (p : Option D) (ρ : Env) (m : Mem) (k : Env → Mem → OutS) : OutS.seq (.exc c p ρ m) k = .exc c p ρ m := rfl
@[simp] theorem OutS.seq_bad (k : Env → Mem → OutS) : OutS.seq .bad k = .bad := rfl
section
variable {G : Gx} {W : WX} {H : Hp} {β : List Pl} {D : Ends}
theorem GoodS.ext {r : OutS} {H1 : Hp} {β1 : List Pl} (h : GoodS G W D H β r) (x : Ext β H H1 β1) : GoodS G W D H1 β1 r := by
  cases r with
  | next ρ m => exact fun σ' β' H' x' r s => h σ' β' H' (x.trans x') r s
  | brk ρ m => exact fun σ' β' H' x' r s => h σ' β' H' (x.trans x') r s
  | cont ρ m => exact fun σ' β' H' x' r s => h σ' β' H' (x.trans x') r s
  | ret v m => exact fun u β' H' x' r s => h u β' H' (x.trans x') r s
  | exc c p ρ m => exact fun cls dd σ' β' H' x' r s z => h cls dd σ' β' H' (x.trans x') r s z
  | bad => exact h
/-- behind an expression -/
theorem GoodS.ofE {α : Type} {r : Out α} {σ : L2.St} {ρ : Env} {m : Mem} {k : α → Mem → OutS} (rp : Rp G H β m) (rs : RS G H β σ ρ) (h : GoodS G W D H β (OutS.ofE r ρ k)) :
    GoodO G (fun c d H' => W c d σ H') H β (fun a m1 H1 β1 => RS G H1 β1 σ ρ ∧ GoodS G W D H1 β1 (k a m1)) r := by
  cases r with
  | ok a m1 => exact fun β' H' x _ => ⟨rs.ext rp x, GoodS.ext (show GoodS G W D H β (k a m1) from h) x⟩
  | exc c p m1 => exact fun cls dd β' H' x r z => h cls dd σ β' H' x r (rs.ext rp x) z
  | bad => exact h
theorem GoodS.ofEE {r : Out Mn.D} {σ : L2.St} {ρ : Env} {m : Mem} {k : Mn.D → Mem → OutS} (rp : Rp G H β m) (rs : RS G H β σ ρ) (h : GoodS G W D H β (OutS.ofE r ρ k)) {Q : VK}
    (hq : ∀ v m1 H1 β1 u, Ext β H H1 β1 → Rp G H1 β1 m1 → RS G H1 β1 σ ρ → RV G H1 β1 u v → GoodS G W D H1 β1 (k v m1) → Q u H1) : GoodE G (fun c d H' => W c d σ H') H β Q r :=
  (GoodO.mono (GoodS.ofE rp rs h) fun v m1 H1 β1 x rp1 g u ru => hq v m1 H1 β1 u x rp1 g.1 ru g.2).e
theorem GoodS.seq {r : OutS} {k : Env → Mem → OutS} (h : GoodS G W D H β (r.seq k)) {N : L2.St → Hp → Prop} (hn : ∀ ρ m' σ' β' H', Ext β H H' β' → Rp G H' β' m' → RS G H' β' σ' ρ → GoodS G W D H' β' (k ρ m') → N σ' H') : GoodS G W { D with nx := N } H β r := by
  cases r with
  | next ρ m => exact fun σ' β' H' x r s => hn ρ m σ' β' H' x r s (GoodS.ext (show GoodS G W D H β (k ρ m) from h) x)
  | brk ρ m => exact h
  | cont ρ m => exact h
  | ret v m => exact h
  | exc c p ρ m => exact h
  | bad => exact h
end
/-! ### statements -/
def sNil : DenS := fun _ ρ m => .next ρ m
def sSeq (a b : DenS) : DenS := fun fe ρ m => (a fe ρ m).seq fun ρ' m' => b fe ρ' m'
def sExpr (a : Den) : DenS := fun fe ρ m => .ofE (a fe ρ m) ρ fun _ m1 => .next ρ m1
def sRet (a : Den) : DenS := fun fe ρ m => .ofE (a fe ρ m) ρ fun v m1 => .ret v m1
def sIf (t : DenT) (a b : DenS) : DenS := fun fe ρ m => .ofE (t fe ρ m) ρ fun c m1 => if c = true then a fe ρ m1 else b fe ρ m1
def sSet (i : Nat) (a : Den) : DenS := fun fe ρ m => .ofE (a fe ρ m) ρ fun v m1 => .next (ρ.set i (some v)) m1
def sBrk : DenS := fun _ ρ m => .brk ρ m
def sCont : DenS := fun _ ρ m => .cont ρ m
section
variable {G : Gx} {X : Cx} {W : WX} {fe : FE} {a b e : Expr} {st : Stmt} {sa sb : List Stmt} {d : Den} {dt : DenT} {ds ds' : DenS} {pos p' : Pos}
theorem snil_ok : PSs X [] (tS G W fe sNil) := PSs.imp pss_nil fun D σ H ⟨β, m, ρ, rp, rs, g⟩ => g σ β H Ext.refl rp rs
theorem sseq_ok (h1 : PS X st (tS G W fe ds)) (h2 : PSs X sa (tS G W fe ds')) : PSs X (st :: sa) (tS G W fe (sSeq ds ds')) := PSs.imp (pss_cons h1 h2) fun D σ H h => by
  obtain ⟨β, m, ρ, rp, rs, g⟩ := h
  exact ⟨β, m, ρ, rp, rs, GoodS.seq g fun ρ' m' σ' β' H' x r s g' => ⟨β', m', ρ', r, s, g'⟩⟩
theorem sone_ok (h1 : PS X st (tS G W fe ds)) : PSs X [st] (tS G W fe ds) := pss_one h1
theorem sexpr_ok (h : PE X e (tE G W fe d)) (hs : swapsWith e none pos.line X.env = pure false) : PS X (.Expr e pos) (tS G W fe (sExpr d)) := PS.imp (ps_expr h hs) fun D σ H h => by
  obtain ⟨β, m, ρ, rp, rs, g⟩ := h
  exact ⟨β, m, ρ, rp, rs, GoodS.ofEE rp rs g fun v m1 H1 β1 u x rp1 rs1 ru g1 => g1 σ β1 H1 Ext.refl rp1 rs1⟩
theorem sret_ok (h : PE X e (tE G W fe d)) : PS X (.Return (some e) pos) (tS G W fe (sRet d)) := PS.imp (ps_ret h) fun D σ H h => by
  obtain ⟨β, m, ρ, rp, rs, g⟩ := h
  exact ⟨β, m, ρ, rp, rs, GoodS.ofEE rp rs g fun v m1 H1 β1 u x rp1 rs1 ru g1 => g1 u β1 H1 Ext.refl rp1 ru⟩
theorem sif_ok (hc : PT X e (tT G W fe dt)) (ha : PSs X sa (tS G W fe ds)) (hb : PSs X sb (tS G W fe ds')) : PS X (.If e sa sb pos) (tS G W fe (sIf dt ds ds')) := PS.imp (ps_if hc ha hb) fun D σ H h => by
  obtain ⟨β, m, ρ, rp, rs, g⟩ := h
  refine ⟨β, m, ρ, rp, rs, GoodO.mono (GoodS.ofE rp rs g) fun c m1 H1 β1 x rp1 g1 => ?_⟩
  cases c with
  | true => exact ⟨β1, m1, ρ, rp1, g1.1, g1.2⟩
  | false => exact ⟨β1, m1, ρ, rp1, g1.1, g1.2⟩
theorem sset_ok {i : Nat} {x : Str} (hN : X.N.Nodup) (hi : X.N[i]? = some x) (hx : Loc X.env.scope x) (he : PE X e (tE G W fe d)) (hs : swapsWith e (some (.Name x p')) pos.line X.env = pure false) (hf : X.fn x = true ∨ X.env.scope.names.lookup x = some .local) :
    PS X (.Assign [.Name x p'] e pos) (tS G W fe (sSet i d)) := PS.imp (ps_set hN hi hx he hs hf) fun D σ H h => by
  obtain ⟨β, m, ρ, rp, rs, g⟩ := h
  exact ⟨β, m, ρ, rp, rs, GoodS.ofEE rp rs g fun v m1 H1 β1 u x rp1 rs1 ru g1 => g1 _ β1 H1 Ext.refl rp1 (rs1.set i ru)⟩
theorem sbrk_ok : PS X (.Break pos) (tS G W fe sBrk) := PS.imp ps_break fun D σ H ⟨β, m, ρ, rp, rs, g⟩ => g σ β H Ext.refl rp rs
theorem scont_ok : PS X (.Continue pos) (tS G W fe sCont) := PS.imp ps_continue fun D σ H ⟨β, m, ρ, rp, rs, g⟩ => g σ β H Ext.refl rp rs
theorem spass_ok : PS X (.Pass pos) (tS G W fe sNil) := PS.imp ps_pass fun D σ H ⟨β, m, ρ, rp, rs, g⟩ => g σ β H Ext.refl rp rs
end
/-! ### targets -/
inductive Pat where
  | nm (i : Nat) | tp (ps : List Pat)
mutual
def bindP : Pat → D → Env → Option Env
  | .nm i, d, ρ => some (ρ.set i (some d))
  | .tp ps, .tup ds, ρ => bindPs ps ds ρ
  | .tp _, _, _ => none
def bindPs : List Pat → List D → Env → Option Env
  | [], [], ρ => some ρ
  | p :: ps, d :: ds, ρ => match bindP p d ρ with
    | some ρ' => bindPs ps ds ρ'
    | none => none
  | _, _, _ => none
end
mutual
def Pat.slots : Pat → List Nat
  | .nm i => [i]
  | .tp ps => slotss ps
def slotss : List Pat → List Nat
  | [] => []
  | p :: ps => p.slots ++ slotss ps
end
/-- a tuple by its items -/
def RY (G : Gx) (H : Hp) (β : List Pl) (v : V) (d : D) : Prop := ∀ ds, d = .tup ds → ∃ a xs, v = .ref a ∧ SqT G.K H a xs ∧ RVs G H β xs ds
theorem RV.ry {G : Gx} {H : Hp} {β : List Pl} {v : V} {d : D} (h : RV G H β v d) : RY G H β v d := fun ds e => by
  subst e
  simp only [RV] at h
  obtain ⟨a, xs, e, h1, h2⟩ := h
  exact ⟨a, xs, e, h1.sq, h2⟩
def RW (G : Gx) (H : Hp) (β : List Pl) : Pat → V → D → Prop
  | .nm _, v, d => RV G H β v d
  | .tp _, v, d => RY G H β v d
theorem RV.rw {G : Gx} {H : Hp} {β : List Pl} {v : V} {d : D} (p : Pat) (h : RV G H β v d) : RW G H β p v d := by
  cases p with
  | nm i => exact h
  | tp ps => exact h.ry
/-- the slots but those are as they were -/
def Off (is : List Nat) (σ σ' : L2.St) : Prop := σ'.length = σ.length ∧ ∀ i, i ∉ is → σ'[i]? = σ[i]?
theorem Off.refl (is : List Nat) (σ : L2.St) : Off is σ σ := ⟨rfl, fun _ _ => rfl⟩
def tP (G : Gx) (p : Pat) : TG := fun v σ H Q => ∃ β m ρ d ρ', Rp G H β m ∧ RS G H β σ ρ ∧ RW G H β p v d ∧ bindP p d ρ = some ρ' ∧ ∀ σ', RS G H β σ' ρ' → Off p.slots σ σ' → Q σ' H
def tPs (G : Gx) (ps : List Pat) : TGs := fun vs σ H Q => ∃ β m ρ ds ρ', Rp G H β m ∧ RS G H β σ ρ ∧ RVs G H β vs ds ∧ bindPs ps ds ρ = some ρ' ∧ ∀ σ', RS G H β σ' ρ' → Off (slotss ps) σ σ' → Q σ' H
section
variable {G : Gx} {X : Cx} {e : Expr} {es : List Expr} {p : Pat} {ps : List Pat} {pos : Pos} {k : Nat}
theorem PG.imp {e : Expr} {t t' : TG} (h : PG X e t) (f : ∀ v σ H Q, t' v σ H Q → t v σ H Q) : PG X e t' := ⟨fun pins s σ H v u Q I r x => h.run pins s σ H v u Q I r (f v σ H Q x)⟩
theorem PGs.imp {e : List Expr} {t t' : TGs} (h : PGs X e t) (f : ∀ v σ H Q, t' v σ H Q → t v σ H Q) : PGs X e t' := ⟨fun pins s σ H v u Q I r x => h.run pins s σ H v u Q I r (f v σ H Q x)⟩
theorem pnm_ok {i : Nat} {x : Str} (hN : X.N.Nodup) (hi : X.N[i]? = some x) (hx : Loc X.env.scope x) (hf : X.fn x = true ∨ X.env.scope.names.lookup x = some .local) : PG X (.Name x pos) (tP G (.nm i)) := PG.imp (pg_name hN hi hx hf) fun v σ H Q h => by
  obtain ⟨β, m, ρ, d, ρ', rp, rs, rv, hb, hq⟩ := h
  simp only [bindP, Option.some.injEq] at hb
  subst hb
  refine hq _ (rs.set i rv) ⟨by simp, fun j hj => ?_⟩
  rw [List.getElem?_set_ne (fun z => hj (by rw [← z]; simp [Pat.slots]))]
theorem pnil_ok : PGs X [] (tPs G []) := PGs.imp pgs_nil fun vs σ H Q h => by
  obtain ⟨β, m, ρ, ds, ρ', rp, rs, rv, hb, hq⟩ := h
  cases ds with
  | nil =>
    simp only [bindPs, Option.some.injEq] at hb
    subst hb
    simp only [RVs] at rv
    exact ⟨rv, hq _ rs (Off.refl _ _)⟩
  | cons d ds => simp [bindPs] at hb
theorem RVs.rws {H : Hp} {β : List Pl} {vs : List V} {d : D} {ds : List D} (h : RVs G H β vs (d :: ds)) : ∃ v r, vs = v :: r ∧ RV G H β v d ∧ RVs G H β r ds := by
  simp only [RVs] at h
  obtain ⟨x, r, e, h1, h2⟩ := h
  exact ⟨x, r, e, h1, h2⟩
theorem pcons_ok (h1 : PG X e (tP G p)) (h2 : PGs X es (tPs G ps)) (hs : (assignEach (e :: es) X.env).map (·.2) = assign e X.env :: (assignEach es X.env).map (·.2)) : PGs X (e :: es) (tPs G (p :: ps)) := PGs.imp (pgs_cons h1 h2 hs) fun vs σ H Q h => by
  obtain ⟨β, m, ρ, ds, ρ', rp, rs, rv, hb, hq⟩ := h
  cases ds with
  | nil => simp [bindPs] at hb
  | cons d ds =>
    obtain ⟨v, r, rfl, r1, r2⟩ := rv.rws
    simp only [bindPs] at hb
    cases e1 : bindP p d ρ with
    | none => rw [e1] at hb; cases hb
    | some ρ1 =>
      rw [e1] at hb
      refine ⟨v, r, rfl, β, m, ρ, d, ρ1, rp, rs, r1.rw p, e1, fun σ1 rs1 o1 => ⟨β, m, ρ1, ds, ρ', rp, rs1, r2, hb, fun σ2 rs2 o2 => hq σ2 rs2 ⟨o2.1.trans o1.1, fun i hi => ?_⟩⟩⟩
      simp only [slotss, List.mem_append, not_or] at hi
      exact (o2.2 i hi.2).trans (o1.2 i hi.1)
theorem bindPs_len : ∀ (ps : List Pat) (ds : List D) (ρ ρ' : Env), bindPs ps ds ρ = some ρ' → ps.length = ds.length
  | [], [], _, _, _ => rfl
  | [], _ :: _, _, _, h => by simp [bindPs] at h
  | _ :: _, [], _, _, h => by simp [bindPs] at h
  | p :: ps, d :: ds, ρ, ρ', h => by
    simp only [bindPs] at h
    cases e1 : bindP p d ρ with
    | none => rw [e1] at h; cases h
    | some ρ1 => rw [e1] at h; simp [bindPs_len ps ds ρ1 ρ' h]
theorem ptup_ok (on : On G X) (hc : X.calm = true) (h : PGs X es (tPs G ps)) (hn : (assignEach es X.env).length = ps.length) (hst : (assignEach es X.env).findIdx? (·.1) = none) : PG X (.Tuple es k pos) (tP G (.tp ps)) := PG.imp (pg_tup hc h hn hst) fun v σ H Q h => by
  obtain ⟨β, m, ρ, d, ρ', rp, rs, rv, hb, hq⟩ := h
  cases d with
  | tup ds =>
    simp only [bindP] at hb
    obtain ⟨a, xs, rfl, h1, h2⟩ := rv ds rfl
    exact ⟨a, xs, rfl, on.K ▸ h1, by rw [h2.length, bindPs_len ps ds ρ ρ' hb], β, m, ρ, ds, ρ', rp, rs, h2, hb, hq⟩
  | _ => simp [bindP] at hb
end
/-- targets = a, targets in parentheses or not -/
def sTup (p : Pat) (a : Den) : DenS := fun fe ρ m => .ofE (a fe ρ m) ρ fun v m1 => match bindP p v ρ with
  | some ρ' => .next ρ' m1
  | none => .bad
section
variable {G : Gx} {X : Cx} {W : WX} {fe : FE} {a e tg : Expr} {d da di : Den} {pos p' : Pos} {p : Pat}
theorem stup_ok (he : PE X e (tE G W fe d)) (hg : PG X tg (tP G p)) (hs : swapsWithSole [tg] e pos.line X.env = pure false) (hw : swappedStores [tg] e X.env = pure none)
    (h1 : (assignEach [tg] X.env).map (·.2) = [assign tg X.env]) : PS X (.Assign [tg] e pos) (tS G W fe (sTup p d)) := PS.imp (ps_asg he hg hs hw h1) fun D σ H h => by
  obtain ⟨β, m, ρ, rp, rs, g⟩ := h
  refine ⟨β, m, ρ, rp, rs, GoodS.ofEE rp rs g fun v m1 H1 β1 u x rp1 rs1 ru g1 => ?_⟩
  cases q : bindP p v ρ with
  | none => rw [q] at g1; exact g1.elim
  | some ρ' =>
    rw [q] at g1
    exact ⟨β1, m1, ρ, v, ρ', rp1, rs1, ru.rw p, q, fun σ' rs' _ => g1 σ' β1 H1 Ext.refl rp1 rs'⟩
end
/-! ### o[i] = v -/
def setD (o i v : D) (m : Mem) : Option Mem := match o with
  | .loc l => match m[l]? with
    | some (.lst xs) => match i with
      | .int k => (ixN xs.length k).map fun j => m.set l (.lst (xs.set j v))
      | _ => none
    | some (.dict kvs false) => if kindOk kvs i = true ∧ (dPut kvs i v).length ≤ sizeLine then some (m.set l (.dict (dPut kvs i v) false)) else none
    | _ => none
  | _ => none
/-- the value first, then the object, then the index -/
def sSub (o i a : Den) : DenS := fun fe ρ m => .ofE (a fe ρ m) ρ fun v m1 => .ofE (o fe ρ m1) ρ fun x m2 => .ofE (i fe ρ m2) ρ fun k m3 => match setD x k v m3 with
  | some m4 => .next ρ m4
  | none => .bad
def rSetM (G : Gx) : TSet := fun o i v H Q => ∃ β m x k d, Rp G H β m ∧ RV G H β o x ∧ RV G H β i k ∧ RV G H β v d ∧ match setD x k d m with
  | some m' => ∀ β' H', Ext β H H' β' → Rp G H' β' m' → Q H'
  | none => False
section
variable {G : Gx} {X : Cx}
theorem set_ok (on : On G X) (hu : X.A.units + 64 < cLine) : PSet X (rSetM G) := by
  intro pins s σ H o i v ov iv u Q I ro ri rv h
  obtain ⟨β, m, x, k, d, rp, r1, r2, r3, h⟩ := h
  cases e : setD x k d m with
  | none => rw [e] at h; exact h.elim
  | some m' =>
    rw [e] at h
    unfold setD at e
    split at e
    · split at e
      · rename_i xs e1
        split at e
        · simp only [Option.map_eq_some_iff] at e
          obtain ⟨j, e2, rfl⟩ := e
          obtain ⟨p, zs, rfl, ha, h1, h2⟩ := rp.lst e1 r1
          simp only [RV] at r2; subst r2
          refine set_list pins s σ H _ _ v ov iv u Q I ro ri rv ⟨p, zs, _, j, rfl, rfl, h1, by rw [h2.length]; exact e2, ?_⟩
          have xw := Ext.write (H := H) (ob := .lst (zs.set j v)) ha
          have t := xw.tl rp
          exact h β _ xw (rp.write ha rfl ⟨_, upd_same, RVs.mono t (BL.refl _) _ _ (h2.set r3 j)⟩)
        · cases e
      · rename_i kvs e1
        split at e
        · rename_i c
          simp only [Option.some.injEq] at e
          subst e
          obtain ⟨p, es, ep, rfl, ha, hs, hl, h1, h2⟩ := rp.dict e1 r1
          cases ro
          refine dput_ok on hu I rp ha hs hl c.2 h1 h2 c.1 r2 ri r3 rv fun es' ep' s' I' rp' => ?_
          exact ⟨_, I', h β _ (Ext.write ha) rp'⟩
        · cases e
      · cases e
    · cases e
end
section
variable {G : Gx} {X : Cx} {W : WX} {fe : FE} {o i e : Expr} {da dO di : Den} {pos sp : Pos}
theorem ssub_ok (on : On G X) (hu : X.A.units + 64 < cLine) (he : PE X e (tE G W fe da)) (ho : PE X o (tE G W fe dO)) (hi : PE X i (tE G W fe di))
    (ha : ∀ v, assign (.Subscript o i sp) X.env v = (do
      let ov ← holding [v] (eval o X.env)
      let iv ← holding [v, ov] (eval i X.env)
      standAt sp
      holding [v, ov, iv] (setItem ov iv v)
      release [v, ov, iv] []))
    (hs : swapsWithSole [.Subscript o i sp] e pos.line X.env = pure false) (hw : swappedStores [.Subscript o i sp] e X.env = pure none) (h1 : (assignEach [.Subscript o i sp] X.env).map (·.2) = [assign (.Subscript o i sp) X.env]) :
    PS X (.Assign [.Subscript o i sp] e pos) (tS G W fe (sSub dO di da)) := PS.imp (ps_asg he (pg_sub ho hi (set_ok on hu) ha) hs hw h1) fun D σ H h => by
  obtain ⟨β, m, ρ, rp, rs, g⟩ := h
  refine ⟨β, m, ρ, rp, rs, GoodS.ofEE rp rs g fun v m1 H1 β1 u x rp1 rs1 ru g1 => ?_⟩
  refine ⟨β1, m1, ρ, rp1, rs1, GoodS.ofEE rp1 rs1 g1 fun xo m2 H2 β2 uo x2 rp2 rs2 ruo g2 => ?_⟩
  refine ⟨β2, m2, ρ, rp2, rs2, GoodS.ofEE rp2 rs2 g2 fun xi m3 H3 β3 ui x3 rp3 rs3 rui g3 => ?_⟩
  have ru' := RV.mono ((x2.trans x3).tl rp1) (x2.trans x3).bl _ _ ru
  have ruo' := RV.mono (x3.tl rp2) x3.bl _ _ ruo
  refine ⟨β3, m3, xo, xi, v, rp3, ruo', rui, ru', ?_⟩
  cases q : setD xo xi v m3 with
  | none => rw [q] at g3; exact g3.elim
  | some m4 =>
    rw [q] at g3
    exact fun β' H' x4 rp4 => g3 σ β' H' x4 rp4 (rs3.ext rp3 x4)
end
end Mn
set_option Elab.async false
set_option linter.all false
set_option maxRecDepth 100000
set_option maxHeartbeats 1000000
/-! Mn12: what is gone through. -/
namespace Mn
open PySem L2 PySem.Spec PyProof.Rows
/-- locked things persist -/
def LK (β : List Pl) (H H' : Hp) : Prop := ∀ b o, (b, true) ∈ β → H b = some o → H' b = some o
/-- later on -/
structure Lt (G : Gx) (β1 : List Pl) (H1 : Hp) (β : List Pl) (H : Hp) : Prop where
  tl : TL G.K H1 H
  bl : BL β1 β
  lk : LK β1 H1 H
theorem Lt.refl {G : Gx} {β : List Pl} {H : Hp} : Lt G β H β H := ⟨TL.refl _ _, BL.refl _, fun _ _ _ h => h⟩
theorem BL.mem {β β' : List Pl} (h : BL β β') {p : Pl} (m : p ∈ β) : p ∈ β' := by
  obtain ⟨x, rfl⟩ := h
  exact List.mem_append_left _ m
theorem nd_flag {β : List Pl} (h : (β.map (·.1)).Nodup) {b : Addr} (h1 : (b, true) ∈ β) : (b, false) ∉ β := by
  induction β with
  | nil => simp at h1
  | cons p ps ih =>
    simp only [List.map_cons, List.nodup_cons, List.mem_map, not_exists, not_and] at h
    intro h2
    rcases List.mem_cons.mp h1 with e1 | h1 <;> rcases List.mem_cons.mp h2 with e2 | h2
    · rw [← e1] at e2; cases e2
    · exact h.1 (b, false) h2 (by rw [← e1])
    · exact h.1 (b, true) h1 (by rw [← e2])
    · exact ih h.2 h1 h2
theorem Lt.ext {G : Gx} {β1 β β' : List Pl} {H1 H H' : Hp} {m : Mem} (a : Lt G β1 H1 β H) (rp : Rp G H β m) (x : Ext β H H' β') : Lt G β1 H1 β' H' :=
  ⟨a.tl.trans (x.tl rp), a.bl.trans x.bl, fun b o hb e => x.fr b o (a.lk b o hb e) (nd_flag rp.nd (a.bl.mem hb))⟩
abbrev Watch := List (Nat × O)
def watchOk (w : Watch) (m : Mem) : Bool := w.all fun p => decide (m[p.1]? = some p.2)
/-- what an iterator yields, while something must stay as it is -/
structure ItOk (G : Gx) (J : It) (p : Pat) (xs : List D) (w : Watch) (H1 : Hp) (β1 : List Pl) : Prop where
  stop : ∀ H β m, Lt G β1 H1 β H → Rp G H β m → watchOk w m = true → J.stop xs.length H
  go : ∀ i d H β m, Lt G β1 H1 β H → Rp G H β m → watchOk w m = true → xs[i]? = some d → J.go i H
  yld : ∀ i d x H H' β m, Lt G β1 H1 β H → Rp G H β m → watchOk w m = true → xs[i]? = some d → J.yld i H x H' → Hle H H' ∧ RW G H' β p x d
/-- the items, what must stay, what is locked -/
structure Itr where
  xs : List D
  w : Watch
  lk : Option Nat
abbrev DenI := FE → Env → Mem → Out Itr
def lockM (lk : Option Nat) (m : Mem) : Mem := match lk with
  | none => m
  | some l => match m[l]? with
    | some (.dict kvs false) => m.set l (.dict kvs true)
    | _ => m
def unlockM (lk : Option Nat) (m : Mem) : Mem := match lk with
  | none => m
  | some l => match m[l]? with
    | some (.dict kvs true) => m.set l (.dict kvs false)
    | _ => m
def flagB (lk : Option Nat) (f : Bool) (β : List Pl) : List Pl := match lk with
  | none => β
  | some l => match β[l]? with
    | some (a, _) => β.set l (a, f)
    | none => β
/-- lk names a dict that is not locked -/
def canLock (lk : Option Nat) (m : Mem) : Prop := match lk with
  | none => True
  | some l => ∃ kvs, m[l]? = some (.dict kvs false)
/-- the reading of what is gone through -/
def tI (G : Gx) (W : WX) (fe : FE) (p : Pat) (d : DenI) : TI := fun σ H R => ∃ β m ρ, Rp G H β m ∧ RS G H β σ ρ ∧
  GoodO G (fun c d H' => W c d σ H') H β (fun I m1 H1 β1 => canLock I.lk m1 → ∀ J, ItOk G J p I.xs I.w H1 (flagB I.lk true β1) → R J H1) (d fe ρ m)
theorem PI.imp {X : Cx} {tg iter : Expr} {t t' : TI} (h : PI X tg iter t) (f : ∀ σ H R, t' σ H R → t σ H R) : PI X tg iter t' := ⟨fun pins s σ H R I x => h.run pins s σ H R I (f σ H R x)⟩
/-! ### flags do not matter to values -/
def AL (β β' : List Pl) : Prop := ∀ (l : Nat) (a : Addr) (f : Bool), β[l]? = some (a, f) → ∃ f', β'[l]? = some (a, f')
mutual
theorem RV.al {G : Gx} {H : Hp} {β β' : List Pl} (b : AL β β') : ∀ (d : D) (v : V), RV G H β v d → RV G H β' v d
  | .non, v, h => by simpa [RV] using h
  | .bl _, v, h => by simpa [RV] using h
  | .int _, v, h => by simpa [RV] using h
  | .str _, v, h => by simpa [RV] using h
  | .tup ds, v, h => by
    simp only [RV] at h ⊢
    obtain ⟨a, xs, e, hs, hr⟩ := h
    exact ⟨a, xs, e, hs, RVs.al b ds xs hr⟩
  | .seq ds, v, h => by
    simp only [RV] at h ⊢
    obtain ⟨a, xs, e, hs, hr⟩ := h
    exact ⟨a, xs, e, hs, RVs.al b ds xs hr⟩
  | .loc l, v, h => by
    simp only [RV] at h ⊢
    obtain ⟨a, f, e, hl⟩ := h
    obtain ⟨f', hl'⟩ := b l a f hl
    exact ⟨a, f', e, hl'⟩
  | .fn n, v, h => by simpa [RV] using h
theorem RVs.al {G : Gx} {H : Hp} {β β' : List Pl} (b : AL β β') : ∀ (ds : List D) (vs : List V), RVs G H β vs ds → RVs G H β' vs ds
  | [], vs, h => by simpa [RVs] using h
  | d :: ds, vs, h => by
    simp only [RVs] at h ⊢
    obtain ⟨x, r, e, h1, h2⟩ := h
    exact ⟨x, r, e, RV.al b d x h1, RVs.al b ds r h2⟩
end
theorem RS.al {G : Gx} {H : Hp} {β β' : List Pl} {σ : L2.St} {ρ : Env} (b : AL β β') (r : RS G H β σ ρ) : RS G H β' σ ρ := ⟨r.len, fun i d e => let ⟨v, h1, h2⟩ := r.at_ i d e; ⟨v, h1, RV.al b d v h2⟩⟩
theorem RValue.al {G : Gx} {H : Hp} {β β' : List Pl} (b : AL β β') {u : Value} {d : D} (h : RValue G H β u d) : RValue G H β' u d := let ⟨v, r, q⟩ := h; ⟨v, r, RV.al b d v q⟩
theorem RO.al {G : Gx} {H : Hp} {β β' : List Pl} (b : AL β β') {a : Addr} {o : O} (h : RO G H β a o) : RO G H β' a o := by
  cases o with
  | lst ds => obtain ⟨xs, h1, h2⟩ := h; exact ⟨xs, h1, RVs.al b ds xs h2⟩
  | dict kvs lk =>
    obtain ⟨h1, h2, es, ep, h3, h4⟩ := h
    refine ⟨h1, h2, es, ep, h3, ?_⟩
    rcases h4 with ⟨ks, g1, g2, g3, g4⟩ | ⟨ks, g1, g2, g3⟩
    · exact .inl ⟨ks, g1, g2, g3, Paired.mapP g4 fun _ _ z => ⟨z.1, z.2.al b⟩⟩
    · exact .inr ⟨ks, g1, g2, Paired.mapP g3 fun _ _ z => ⟨z.1, z.2.1, RV.al b _ _ z.2.2.1, z.2.2.2.al b⟩⟩
  | inst c fs => obtain ⟨C, dx, vs, h1, h2, h3, h4⟩ := h; exact ⟨C, dx, vs, h1, h2, h3, Paired.mapP h4 fun _ _ z => ⟨z.1, RV.al b _ _ z.2⟩⟩
theorem RX.al {G : Gx} {H : Hp} {β β' : List Pl} (b : AL β β') {cls : Value} {dd : Option Addr} {c : Nat} {p : Option D} (h : RX G H β cls dd c p) : RX G H β' cls dd c p := by
  obtain ⟨C, e1, e2, e3⟩ := h
  refine ⟨C, e1, e2, ?_⟩
  cases p with
  | none => exact e3
  | some d => obtain ⟨x, v, h1, h2, h3⟩ := e3; exact ⟨x, v, h1, h2, RV.al b d v h3⟩
theorem RO.flag {G : Gx} {H : Hp} {β : List Pl} {a : Addr} {kvs : List (D × D)} {lk lk' : Bool} (h : RO G H β a (.dict kvs lk)) : RO G H β a (.dict kvs lk') := h
theorem al_flag (lk : Option Nat) (f : Bool) (β : List Pl) : AL β (flagB lk f β) := by
  intro l a g h
  unfold flagB
  cases lk with
  | none => exact ⟨g, h⟩
  | some k =>
    simp only
    cases e : β[k]? with
    | none => exact ⟨g, h⟩
    | some p =>
      obtain ⟨b, _⟩ := p
      simp only
      by_cases hk : k = l
      · subst hk
        rw [h] at e; cases e
        exact ⟨f, List.getElem?_set_self (List.getElem?_eq_some_iff.mp h).1⟩
      · exact ⟨g, by rw [List.getElem?_set_ne hk]; exact h⟩
theorem flag_map (lk : Option Nat) (f : Bool) (β : List Pl) : (flagB lk f β).map (·.1) = β.map (·.1) := by
  unfold flagB
  cases lk with
  | none => rfl
  | some k =>
    simp only
    cases e : β[k]? with
    | none => rfl
    | some p =>
      obtain ⟨b, g⟩ := p
      simp only [List.map_set]
      apply List.ext_getElem?
      intro i
      by_cases hk : k = i
      · subst hk
        rw [List.getElem?_set_self (by simpa using (List.getElem?_eq_some_iff.mp e).1), List.getElem?_map, e]; rfl
      · rw [List.getElem?_set_ne hk]
/-- the flag of one dict is changed -/
theorem Rp.flag {G : Gx} {H : Hp} {β : List Pl} {m : Mem} {l : Nat} {kvs : List (D × D)} {f f' : Bool} (r : Rp G H β m) (hm : m[l]? = some (.dict kvs f)) : Rp G H (flagB (some l) f' β) (m.set l (.dict kvs f')) where
  len := by
    have := congrArg List.length (flag_map (some l) f' β)
    simp only [List.length_map] at this
    rw [List.length_set, this, r.len]
  nd := by rw [flag_map]; exact r.nd
  at_ := fun j o a g e1 e2 => by
    have hl : l < β.length := by rw [r.len]; exact (List.getElem?_eq_some_iff.mp hm).1
    have hb : β[l]? = some β[l] := List.getElem?_eq_getElem hl
    obtain ⟨b, fb, hb⟩ : ∃ b fb, β[l]? = some (b, fb) := ⟨_, _, hb⟩
    have ef : flagB (some l) f' β = β.set l (b, f') := by simp only [flagB, hb]
    by_cases hj : l = j
    · subst hj
      rw [List.getElem?_set_self (by rw [← r.len]; exact hl)] at e1
      rw [ef, List.getElem?_set_self hl] at e2
      cases e1
      cases e2
      exact ⟨rfl, ((r.at_ l _ _ fb hm hb).2.flag (lk' := f')).al (al_flag _ _ _)⟩
    · rw [List.getElem?_set_ne hj] at e1
      rw [ef, List.getElem?_set_ne hj] at e2
      obtain ⟨h1, h2⟩ := r.at_ j o a g e1 e2
      exact ⟨h1, h2.al (al_flag _ _ _)⟩
theorem Rp.lock {G : Gx} {H : Hp} {β : List Pl} {m : Mem} {lk : Option Nat} (r : Rp G H β m) (h : canLock lk m) : Rp G H (flagB lk true β) (lockM lk m) := by
  cases lk with
  | none => exact r
  | some l =>
    obtain ⟨kvs, e⟩ := h
    have := r.flag (f' := true) e
    simpa only [lockM, e] using this
theorem flag_at {β : List Pl} {l : Nat} {f : Bool} (h : l < β.length) : ∃ a, (flagB (some l) f β)[l]? = some (a, f) := by
  have hb : β[l]? = some β[l] := List.getElem?_eq_getElem h
  generalize β[l] = p at hb
  obtain ⟨a, g⟩ := p
  exact ⟨a, by simp only [flagB, hb]; exact List.getElem?_set_self h⟩
theorem Rp.unlock {G : Gx} {H : Hp} {β β1 : List Pl} {m : Mem} {lk : Option Nat} (r : Rp G H β m) (hl : ∀ l, lk = some l → l < β1.length) (b : BL (flagB lk true β1) β) : Rp G H (flagB lk false β) (unlockM lk m) := by
  cases lk with
  | none => exact r
  | some l =>
    obtain ⟨a, ha⟩ := flag_at (f := true) (hl l rfl)
    have ha' := b.get ha
    have hlt : l < m.length := by rw [← r.len]; exact (List.getElem?_eq_some_iff.mp ha').1
    have hm : m[l]? = some m[l] := List.getElem?_eq_getElem hlt
    obtain ⟨hf, ro⟩ := r.at_ l _ a true hm ha'
    generalize m[l] = o at hm hf ro
    cases o with
    | dict kvs f =>
      cases (show true = f from hf)
      have := r.flag (f' := false) hm
      simpa only [unlockM, hm] using this
    | lst xs => cases hf
    | inst c fs => cases hf
/-- the run between, seen from outside -/
theorem Ext.unlock {H1 H2 : Hp} {β1 β2 : List Pl} {lk : Option Nat} (hl : ∀ l, lk = some l → ∃ a, β1[l]? = some (a, false)) (x : Ext (flagB lk true β1) H1 H2 β2) : Ext β1 H1 H2 (flagB lk false β2) := by
  cases lk with
  | none => exact x
  | some l =>
    obtain ⟨a, ha⟩ := hl l rfl
    have hlt := (List.getElem?_eq_some_iff.mp ha).1
    have e1 : flagB (some l) true β1 = β1.set l (a, true) := by simp only [flagB, ha]
    rw [e1] at x
    obtain ⟨more, hb⟩ := x.bl
    have e2 : β2[l]? = some (a, true) := by rw [hb, List.getElem?_append_left (by simpa using hlt)]; exact List.getElem?_set_self hlt
    have e3 : flagB (some l) false β2 = β1 ++ more := by
      simp only [flagB, e2]
      rw [hb, List.set_append_left _ _ (by simpa using hlt), List.set_set]
      congr 1
      apply List.ext_getElem?
      intro i
      by_cases hi : l = i
      · subst hi; rw [List.getElem?_set_self hlt, ha]
      · rw [List.getElem?_set_ne hi]
    rw [e3]
    refine ⟨⟨more, rfl⟩, fun b o e n => x.fr b o e fun h => n ?_, fun b f h => ?_⟩
    · rcases List.mem_or_eq_of_mem_set h with h | h
      · exact h
      · cases h
    · rcases List.mem_append.mp h with h | h
      · exact .inr (.inl h)
      · rcases x.nw b f (by rw [hb]; exact List.mem_append_right _ h) with h | h | h
        · rcases List.mem_or_eq_of_mem_set h with h | h
          · exact .inl h
          · cases h
        · rcases List.mem_or_eq_of_mem_set h with h | h
          · exact .inr (.inl h)
          · cases h; exact .inl (List.mem_of_getElem? ha)
        · exact .inr (.inr h)
theorem canLock_at {G : Gx} {H : Hp} {β : List Pl} {m : Mem} {lk : Option Nat} (r : Rp G H β m) (h : canLock lk m) : ∀ l, lk = some l → ∃ a, β[l]? = some (a, false) := by
  intro l e
  subst e
  obtain ⟨kvs, e⟩ := h
  have hlt : l < β.length := by rw [r.len]; exact (List.getElem?_eq_some_iff.mp e).1
  have hb : β[l]? = some β[l] := List.getElem?_eq_getElem hlt
  generalize β[l] = p at hb
  obtain ⟨a, f⟩ := p
  obtain ⟨hf, _⟩ := r.at_ l _ a f e hb
  cases (show f = false from hf)
  exact ⟨a, hb⟩
def unlockS (lk : Option Nat) : OutS → OutS
  | .next ρ m => .next ρ (unlockM lk m)
  | .brk ρ m => .brk ρ (unlockM lk m)
  | .cont ρ m => .cont ρ (unlockM lk m)
  | .ret v m => .ret v (unlockM lk m)
  | .exc c p ρ m => .exc c p ρ (unlockM lk m)
  | .bad => .bad
theorem GoodS.unlock {G : Gx} {W : WX} {D : Ends} {H : Hp} {β : List Pl} {lk : Option Nat} {r : OutS} (hl : ∀ l, lk = some l → ∃ a, β[l]? = some (a, false)) (h : GoodS G W D H β (unlockS lk r)) : GoodS G W D H (flagB lk true β) r := by
  have hl' : ∀ l, lk = some l → l < β.length := fun l e => by obtain ⟨a, ha⟩ := hl l e; exact (List.getElem?_eq_some_iff.mp ha).1
  cases r with
  | next ρ m => exact fun σ' β' H' x r s => h σ' _ H' (Ext.unlock hl x) (r.unlock hl' x.bl) (s.al (al_flag _ _ _))
  | brk ρ m => exact fun σ' β' H' x r s => h σ' _ H' (Ext.unlock hl x) (r.unlock hl' x.bl) (s.al (al_flag _ _ _))
  | cont ρ m => exact fun σ' β' H' x r s => h σ' _ H' (Ext.unlock hl x) (r.unlock hl' x.bl) (s.al (al_flag _ _ _))
  | ret v m => exact fun u β' H' x r s => h u _ H' (Ext.unlock hl x) (r.unlock hl' x.bl) (RV.al (al_flag _ _ _) _ _ s)
  | exc c p ρ m => exact fun cls dd σ' β' H' x r s z => h cls dd σ' _ H' (Ext.unlock hl x) (r.unlock hl' x.bl) (s.al (al_flag _ _ _)) (z.al (al_flag _ _ _))
  | bad => exact h
end Mn
set_option Elab.async false
set_option linter.all false
set_option maxRecDepth 100000
set_option maxHeartbeats 1000000
/-! Mn13: iterables, loops. -/
namespace Mn
open PySem L2 PySem.Spec PyProof.Rows
def vOf : Value → Option V
  | .none => some .non
  | .bool b => some (.bl b)
  | .int i _ => some (.int i)
  | .str x _ => some (.str x)
  | .bytes b _ => some (.byt b)
  | .float b _ => some (.flt b)
  | .ref a => some (.ref a)
  | .type n => some (.ty n)
  | _ => none
theorem vOf_rel {v : V} {u : Value} (h : RelV v u) : vOf u = some v := by
  cases v with
  | non => cases (show u = Value.none from h); rfl
  | bl b => cases (show u = Value.bool b from h); rfl
  | int i => obtain ⟨t, rfl⟩ := (show ∃ t, u = Value.int i t from h); rfl
  | str i => obtain ⟨t, rfl⟩ := (show ∃ t, u = Value.str i t from h); rfl
  | byt i => obtain ⟨t, rfl⟩ := (show ∃ t, u = Value.bytes i t from h); rfl
  | flt i => obtain ⟨t, rfl⟩ := (show ∃ t, u = Value.float i t from h); rfl
  | ref a => cases (show u = Value.ref a from h); rfl
  | ty a => cases (show u = Value.type a from h); rfl
theorem relV_uniq {v v' : V} {u : Value} (h : RelV v u) (h' : RelV v' u) : v = v' := Option.some.inj ((vOf_rel h).symm.trans (vOf_rel h'))
/-! ### the keys of a dict -/
def Itd0 (d : Addr) (es : Array DictEntry) (ep : Nat) : It :=
  ⟨fun i H => H d = some (dictO d es ep) ∧ ∃ x en, es[i]? = some en ∧ RelV x en.key, fun i H x H' => H' = H ∧ ∃ en, es[i]? = some en ∧ RelV x en.key, fun i H => H d = some (dictO d es ep) ∧ es.size ≤ i⟩
section
variable {P : Program} {w : World} {K : PySem.W.Frag} {tg : Expr} {d : Addr} {es : Array DictEntry} {ep : Nat}
theorem dictO_ep {X : Cx} {pins : List (Addr × Obj)} {σ : L2.St} {H : Hp} {s : Shared} (I : L2.Inv X pins σ H s) (h : H d = some (dictO d es ep)) : ∃ o, s.heap.get? d = some o ∧ o.ExactDict ∧ o.data = .dict es ep := (I.hok d _ h).1
theorem turn_d0 (it : Addr) : Turn P w K tg (Itd0 d es ep) [it] it (fun i h => h.IsKeyIter it d i es.size ep) where
  mem := by simp
  obj := fun i h st b hb => by
    have e : b = it := by simpa using hb
    subst e
    obtain ⟨oi, e, c, dd⟩ := st
    exact ⟨oi, e, fun v z => by rw [dd] at z; cases z⟩
  keep := fun i h h' st k => st.at fun oi e => k it (by simp) oi e
  item := by
    intro X hP hw hK hc i pins s σ H E I hf st hg
    subst hP hw hK
    obtain ⟨hd, x, en, hen, hrx⟩ := hg
    obtain ⟨f0, f1, f2, f3, f4, f5⟩ := hf it (by simp)
    obtain ⟨o, ho, hx, hdt⟩ := dictO_ep I hd
    refine next_key_item st ho hdt rfl hen fun h' st' sb => ?_
    have I1 : L2.Inv X pins σ H { s with heap := h' } := I.turned (t' := s.toks) (fun b ob hb e => (sb.2 b hb).trans e) f0 f1 f3 f4 f5
    obtain ⟨oi, e, c, dd⟩ := id st'
    exact ⟨en.key, rfl, go_of (s := { s with heap := h' }) e c dd (by decide) ⟨x, H, I1, hrx, ⟨rfl, en, hen, hrx⟩, st', fun b hb => (hf b hb).1⟩⟩
  done := by
    intro X hP hw hK hc i pins s σ H E I hf st hg
    subst hP hw hK
    obtain ⟨hd, hi⟩ := hg
    obtain ⟨f0, f1, f2, f3, f4, f5⟩ := hf it (by simp)
    obtain ⟨o, ho, hx, hdt⟩ := dictO_ep I hd
    exact next_key_end (I.ok.hd hc) st ho hdt rfl hi fun h' eb => ⟨rfl, I.turned (t' := s.toks) (fun b ob hb e => eb b ob hb e) f0 f1 f3 f4 f5⟩
  self := fun A i s Q E st h => by
    refine wpAny_pyIter_slot st.typeIs PySem.F.slot_dict_keyiterator_iter (wpAny_call_entry PySem.F.slot_dict_keyiterator_iter st.typeIs PySem.F.entry_dict_keyiterator_iter ?_ (PySem.F.args_dict_keyiterator_iter_1 _))
    show wpAny _ _ (ret (.ref it)) _ _ s
    exact wpAny_pure ⟨_, rfl, "dict_keyiterator", _, st.typeIs, PySem.F.slot_dict_keyiterator_next.lookup, h⟩
end
/-- a list, a tuple, a text, a dict's keys -/
def iAnyT (K : PySem.W.Frag) (tl : TE) : TI := fun σ H R => tl σ H fun x H1 =>
  (∃ a xs, x = .ref a ∧ SqL K H1 a xs ∧ R (Itl K a) H1) ∨ (∃ a xs, x = .ref a ∧ SqT K H1 a xs ∧ R (Itt K a) H1) ∨ (∃ z, x = .str z ∧ R (Its z) H1) ∨
    ∃ a es ep, x = .ref a ∧ (a == sysModules) = false ∧ H1 a = some (dictO a es ep) ∧ R (Itd0 a es ep) H1
theorem pi_any {X : Cx} {tg l : Expr} {tl : TE} (hl : PE X l tl) : PI X tg l (iAnyT X.K tl) := by
  refine ⟨fun pins s σ H R I h => ?_⟩
  refine thn (hl.run pins s σ H _ I h) fun v s1 ⟨x, H1, I1, r1, q1⟩ => ?_
  rcases q1 with ⟨a, xs, rfl, hq, hr⟩ | ⟨a, xs, rfl, hq, hr⟩ | ⟨z, rfl, hr⟩ | ⟨a, es, ep, rfl, hs, hd, hr⟩
  · cases r1
    obtain ⟨its, rv, p, hz⟩ := I1.list hq
    refine wpAny_pyIter_list p.isList ?_
    refine ⟨s1.heap.objs.size, [s1.heap.objs.size], _, _, H1, rfl, I1.kept (t' := s1.toks) fun b o e => Heap.get?_push_of_some _ e, turn_list a _, ⟨_, Heap.get?_push_size _ rfl, rfl, rfl⟩, fun b hb => ?_, hr⟩
    have e : b = s1.heap.objs.size := by simpa using hb
    subst e
    exact I1.fpOk (Nat.le_refl _) (I1.hok.fresh (Nat.le_refl _))
  · cases r1
    obtain ⟨its, rv, p, hz⟩ := I1.tuple hq
    refine wpAny_pyIter_tuple (show s1.heap.IsTuple a its.toArray from p) ?_
    refine ⟨s1.heap.objs.size, [s1.heap.objs.size], _, _, H1, rfl, I1.kept (t' := s1.toks) fun b o e => Heap.get?_push_of_some _ e, turn_tuple a _, ⟨_, Heap.get?_push_size _ rfl, rfl, rfl⟩, fun b hb => ?_, hr⟩
    have e : b = s1.heap.objs.size := by simpa using hb
    subst e
    exact I1.fpOk (Nat.le_refl _) (I1.hok.fresh (Nat.le_refl _))
  · obtain ⟨t, rfl⟩ := r1
    cases ha : z.cps.all (· < 128)
    · exact wpAny_pyIter_wide ha (pi_one (tk := s1.toks) I1 _ (turn_str _ z t "str_iterator" (.inr rfl)) ⟨_, Heap.get?_push_size _ rfl, rfl, rfl⟩ hr)
    · exact wpAny_pyIter_ascii ha (pi_one (tk := s1.toks) I1 _ (turn_str _ z t "str_ascii_iterator" (.inl rfl)) ⟨_, Heap.get?_push_size _ rfl, rfl, rfl⟩ hr)
  · cases r1
    obtain ⟨o, ho, hx, hdt⟩ := dictO_ep I1 hd
    exact iter_keys hs ho hx hdt (pi_one (tk := s1.toks) I1 _ (turn_d0 _) ⟨_, Heap.get?_push_size _ rfl, rfl, rfl⟩ hr)
section
variable {G : Gx} {H1 : Hp} {β1 : List Pl}
theorem watch1 {l : Nat} {o : O} {m : Mem} (h : watchOk [(l, o)] m = true) : m[l]? = some o := by
  simpa [watchOk] using h
theorem it_tup {K : PySem.W.Frag} (hk : K = G.K) {a : Addr} {zs : List V} {xs : List D} {p : Pat} (h1 : FzT G.K H1 a zs) (h2 : RVs G H1 β1 zs xs) : ItOk G (Itt K a) p xs [] H1 β1 := by
  subst hk
  refine ⟨fun H β m t rp w => ⟨zs, (t.tl.1 _ _ h1).sq, by rw [h2.length]; exact Nat.le_refl _⟩, fun i d H β m t rp w hi => ?_, fun i d x H H' β m t rp w hi hy => ?_⟩
  · obtain ⟨v, e, r⟩ := h2.get hi
    exact ⟨zs, v, (t.tl.1 _ _ h1).sq, e⟩
  · obtain ⟨rfl, hx⟩ := hy
    obtain ⟨v, e, r⟩ := h2.get hi
    have := hx zs (t.tl.1 _ _ h1).sq
    rw [e] at this
    cases this
    exact ⟨fun b o e => e, (RV.mono t.tl t.bl _ _ r).rw p⟩
theorem it_seq {K : PySem.W.Frag} (hk : K = G.K) {a : Addr} {zs : List V} {xs : List D} {p : Pat} (h1 : FzL G.K H1 a zs) (h2 : RVs G H1 β1 zs xs) : ItOk G (Itl K a) p xs [] H1 β1 := by
  subst hk
  refine ⟨fun H β m t rp w => ⟨zs, (t.tl.2 _ _ h1).sq, by rw [h2.length]; exact Nat.le_refl _⟩, fun i d H β m t rp w hi => ?_, fun i d x H H' β m t rp w hi hy => ?_⟩
  · obtain ⟨v, e, r⟩ := h2.get hi
    exact ⟨zs, v, (t.tl.2 _ _ h1).sq, e⟩
  · obtain ⟨rfl, hx⟩ := hy
    obtain ⟨v, e, r⟩ := h2.get hi
    have := hx zs (t.tl.2 _ _ h1).sq
    rw [e] at this
    cases this
    exact ⟨fun b o e => e, (RV.mono t.tl t.bl _ _ r).rw p⟩
/-- a list's items while it stays as it is -/
theorem lst_at {a : Addr} {l : Nat} {xs : List D} (ha : β1[l]? = some (a, false)) {H : Hp} {β : List Pl} {m : Mem} (t : Lt G β1 H1 β H) (rp : Rp G H β m) (w : m[l]? = some (.lst xs)) : ∃ zs, H a = some (.lst zs) ∧ RVs G H β zs xs := by
  obtain ⟨a', zs, e, h1, h2, h3⟩ := rp.lst (v := .ref a) w (by simp only [RV]; exact ⟨a, false, rfl, t.bl.get ha⟩)
  cases e
  exact ⟨zs, h2, h3⟩
theorem it_lst {K : PySem.W.Frag} (hk : K = G.K) {a : Addr} {l : Nat} {xs : List D} {p : Pat} (ha : β1[l]? = some (a, false)) : ItOk G (Itl K a) p xs [(l, .lst xs)] H1 β1 := by
  subst hk
  refine ⟨fun H β m t rp w => ?_, fun i d H β m t rp w hi => ?_, fun i d x H H' β m t rp w hi hy => ?_⟩
  · obtain ⟨zs, h1, h2⟩ := lst_at ha t rp (watch1 w)
    exact ⟨zs, SqL.of h1, by rw [h2.length]; exact Nat.le_refl _⟩
  · obtain ⟨zs, h1, h2⟩ := lst_at ha t rp (watch1 w)
    obtain ⟨v, e, r⟩ := h2.get hi
    exact ⟨zs, v, SqL.of h1, e⟩
  · obtain ⟨rfl, hx⟩ := hy
    obtain ⟨zs, h1, h2⟩ := lst_at ha t rp (watch1 w)
    obtain ⟨v, e, r⟩ := h2.get hi
    have := hx zs (SqL.of h1)
    rw [e] at this
    cases this
    exact ⟨fun b o e => e, r.rw p⟩
def signs (z : Str) : List D := z.cps.toList.map fun c => .str ⟨#[c]⟩
theorem it_str {z : Str} {p : Pat} : ItOk G (Its z) p (signs z) [] H1 β1 := by
  refine ⟨fun H β m t rp w => ?_, fun i d H β m t rp w hi => ?_, fun i d x H H' β m t rp w hi hy => ?_⟩
  · show z.cps.size ≤ (signs z).length
    simp [signs]
  · have := (List.getElem?_eq_some_iff.mp hi).1
    show i < z.cps.size
    simpa [signs] using this
  · obtain ⟨rfl, c, hc, rfl⟩ := hy
    rw [signs, List.getElem?_map, Array.getElem?_toList, hc] at hi
    cases hi
    exact ⟨fun b o e => e, RV.rw p (by simp [RV])⟩
theorem it_dict {a : Addr} {es : Array DictEntry} {ep : Nat} {kvs : List (D × D)} {p : Pat} (hm : (a, true) ∈ β1) (h : H1 a = some (dictO a es ep)) (pe : PE2 G H1 β1 es.toList kvs) : ItOk G (Itd0 a es ep) p (kvs.map (·.1)) [] H1 β1 := by
  obtain ⟨l1, l2⟩ := Paired.get1 pe
  have at_ : ∀ (i : Nat) (d : D), (kvs.map (·.1))[i]? = some d → ∃ en : DictEntry, es[i]? = some en ∧ RValue G H1 β1 en.key d := by
    intro i d hi
    rw [List.getElem?_map] at hi
    obtain ⟨q, hq, rfl⟩ := Option.map_eq_some_iff.mp hi
    have hlt := (List.getElem?_eq_some_iff.mp hq).1
    have hlt' : i < es.toList.length := by omega
    have he : es.toList[i]? = some es.toList[i] := List.getElem?_eq_getElem hlt'
    exact ⟨_, by rw [← Array.getElem?_toList]; exact he, (l2 i _ q he hq).1⟩
  refine ⟨fun H β m t rp w => ⟨t.lk a _ hm h, ?_⟩, fun i d H β m t rp w hi => ?_, fun i d x H H' β m t rp w hi hy => ?_⟩
  · have : es.size = kvs.length := by simpa using l1
    simp [this]
  · obtain ⟨en, he, v, r1, r2⟩ := at_ i d hi
    exact ⟨t.lk a _ hm h, v, en, he, r1⟩
  · obtain ⟨rfl, en, he, rx⟩ := hy
    obtain ⟨en', he', v, r1, r2⟩ := at_ i d hi
    rw [he] at he'; cases he'
    rw [relV_uniq rx r1]
    exact ⟨fun b o e => e, (RV.mono t.tl t.bl _ _ r2).rw p⟩
end
def iAny (a : Den) : DenI := fun fe ρ m => (a fe ρ m).bind fun d m1 => match d with
  | .tup xs => .ok ⟨xs, [], none⟩ m1
  | .seq xs => .ok ⟨xs, [], none⟩ m1
  | .str z => .ok ⟨signs z, [], none⟩ m1
  | .loc l => match m1[l]? with
    | some (.lst xs) => .ok ⟨xs, [(l, .lst xs)], none⟩ m1
    | some (.dict kvs lk) => .ok ⟨kvs.map (·.1), [], if lk = true then none else some l⟩ m1
    | _ => .bad
  | _ => .bad
section
variable {G : Gx} {X : Cx} {W : WX} {fe : FE} {e tg : Expr} {d : Den} {p : Pat}
theorem iany_ok (on : On G X) (he : PE X e (tE G W fe d)) : PI X tg e (tI G W fe p (iAny d)) := PI.imp (pi_any he) fun σ H R h => by
  obtain ⟨β, m, ρ, rp, rs, g⟩ := h
  refine ⟨β, m, ρ, rp, rs, (GoodO.mono (GoodO.bind g) fun x m1 H1 β1 e1 rp1 g1 u ru => ?_).e⟩
  cases x with
  | tup xs =>
    simp only [RV] at ru
    obtain ⟨a, zs, rfl, h1, h2⟩ := ru
    exact .inr (.inl ⟨a, zs, rfl, on.K ▸ h1.sq, g1 β1 H1 Ext.refl rp1 trivial _ (it_tup on.K h1 h2)⟩)
  | seq xs =>
    simp only [RV] at ru
    obtain ⟨a, zs, rfl, h1, h2⟩ := ru
    exact .inl ⟨a, zs, rfl, on.K ▸ h1.sq, g1 β1 H1 Ext.refl rp1 trivial _ (it_seq on.K h1 h2)⟩
  | str z =>
    simp only [RV] at ru; subst ru
    exact .inr (.inr (.inl ⟨z, rfl, g1 β1 H1 Ext.refl rp1 trivial _ it_str⟩))
  | loc l =>
    simp only at g1
    split at g1
    · rename_i xs e
      obtain ⟨a, zs, rfl, ha, h1, h2⟩ := rp1.lst e ru
      exact .inl ⟨a, zs, rfl, SqL.of h1, g1 β1 H1 Ext.refl rp1 trivial _ (it_lst on.K ha)⟩
    · rename_i kvs lk e
      obtain ⟨a, es, ep, rfl, ha, hs, hl, h2, h3⟩ := rp1.dict e ru
      refine .inr (.inr (.inr ⟨a, es, ep, rfl, hs, h2, ?_⟩))
      cases lk with
      | true => exact g1 β1 H1 Ext.refl rp1 trivial _ (it_dict (List.mem_of_getElem? ha) h2 (ent_all h3))
      | false =>
        refine g1 β1 H1 Ext.refl rp1 ⟨kvs, e⟩ _ (it_dict ?_ h2 ((Paired.mapP (ent_all h3) fun _ _ z => ⟨z.1.al (al_flag _ _ _), z.2.al (al_flag _ _ _)⟩)))
        show (a, true) ∈ flagB (some l) true β1
        simp only [flagB, ha]
        exact List.mem_of_getElem? (List.getElem?_set_self (List.getElem?_eq_some_iff.mp ha).1)
    · exact False.elim g1
  | _ => exact False.elim g1
end
/-! ### range -/
def rangeD (lo : Int) (n : Nat) : List D := (List.range n).map fun i => .int (lo + (i : Nat))
theorem it_range {G : Gx} {H1 : Hp} {β1 : List Pl} {lo : Int} {n : Nat} {p : Pat} : ItOk G (L2.Itr lo n) p (rangeD lo n) [] H1 β1 := by
  refine ⟨fun H β m t rp w => ?_, fun i d H β m t rp w hi => ?_, fun i d x H H' β m t rp w hi hy => ?_⟩
  · show n ≤ (rangeD lo n).length
    simp [rangeD]
  · have := (List.getElem?_eq_some_iff.mp hi).1
    show i < n
    simpa [rangeD] using this
  · obtain ⟨rfl, rfl⟩ := hy
    rw [rangeD, List.getElem?_map] at hi
    obtain ⟨j, hj, rfl⟩ := Option.map_eq_some_iff.mp hi
    have := (List.getElem?_eq_some_iff.mp hj)
    obtain ⟨h1, h2⟩ := this
    simp only [List.getElem_range] at h2
    subst h2
    exact ⟨fun b o e => e, RV.rw p (by simp [RV])⟩
def iRange1 (a : DenA) : DenI := fun fe ρ m => (a fe ρ m).bind fun ds m1 => match ds with
  | [.int j] => if -(2 ^ 62) ≤ j ∧ j < 2 ^ 62 then .ok ⟨rangeD 0 j.toNat, [], none⟩ m1 else .bad
  | _ => .bad
def iRange2 (a : DenA) : DenI := fun fe ρ m => (a fe ρ m).bind fun ds m1 => match ds with
  | [.int i, .int j] => if -(2 ^ 62) ≤ i ∧ i < 2 ^ 62 ∧ -(2 ^ 62) ≤ j ∧ j < 2 ^ 62 then .ok ⟨rangeD i (j - i).toNat, [], none⟩ m1 else .bad
  | _ => .bad
section
variable {G : Gx} {X : Cx} {W : WX} {fe : FE} {a b tg : Expr} {dA : DenA} {p : Pat} {q pos : Pos}
theorem irange1_ok (hg : Gl X "range") (hm : X.mg "range" = none) (ha : PA X [a] (tA G W fe dA)) (hs : starEach [a] X.env = [(false, eval a X.env)]) : PI X tg (.Call (.Name "range" q) [a] [] pos) (tI G W fe p (iRange1 dA)) := PI.imp (pi_range1 hg hm ha hs) fun σ H R h => by
  obtain ⟨β, m, ρ, rp, rs, g⟩ := h
  refine ⟨β, m, ρ, rp, rs, GoodO.mono (GoodO.bind g) fun ds m1 H1 β1 e1 rp1 g1 vs rvs => ?_⟩
  split at g1
  · obtain ⟨v, rfl, r⟩ := rvs.split1
    simp only [RV] at r; subst r
    split at g1
    · rename_i c
      exact ⟨_, rfl, c.1, c.2, g1 β1 H1 Ext.refl rp1 trivial _ it_range⟩
    · exact False.elim g1
  · exact False.elim g1
theorem irange2_ok (hg : Gl X "range") (hm : X.mg "range" = none) (ha : PA X [a, b] (tA G W fe dA)) (hs : starEach [a, b] X.env = [(false, eval a X.env), (false, eval b X.env)]) (hs2 : starEach [b] X.env = [(false, eval b X.env)]) : PI X tg (.Call (.Name "range" q) [a, b] [] pos) (tI G W fe p (iRange2 dA)) := PI.imp (pi_range2 hg hm ha hs hs2) fun σ H R h => by
  obtain ⟨β, m, ρ, rp, rs, g⟩ := h
  refine ⟨β, m, ρ, rp, rs, GoodO.mono (GoodO.bind g) fun ds m1 H1 β1 e1 rp1 g1 vs rvs => ?_⟩
  split at g1
  · obtain ⟨v, w, rfl, r, r'⟩ := rvs.split2
    simp only [RV] at r r'; subst r r'
    split at g1
    · rename_i c
      exact ⟨_, _, rfl, c, g1 β1 H1 Ext.refl rp1 trivial _ it_range⟩
    · exact False.elim g1
  · exact False.elim g1
end
/-! ### for -/
def OutS.turn (r : OutS) (k : Env → Mem → OutS) : OutS := match r with
  | .next ρ m => k ρ m
  | .cont ρ m => k ρ m
  | .brk ρ m => .next ρ m
  | .ret v m => .ret v m
  | .exc c p ρ m => .exc c p ρ m
  | .bad => .bad
@[simp] theorem OutS.turn_next (ρ : Env) (m : Mem) (k : Env → Mem → OutS) : OutS.turn (.next ρ m) k = k ρ m := rfl
@[simp] theorem OutS.turn_cont (ρ : Env) (m : Mem) (k : Env → Mem → OutS) : OutS.turn (.cont ρ m) k = k ρ m := rfl
@[simp] theorem OutS.turn_brk (ρ : Env) (m : Mem) (k : Env → Mem → OutS) : OutS.turn (.brk ρ m) k = .next ρ m := rfl
@[simp] theorem OutS.turn_ret (v : D) (m : Mem) (k : Env → Mem → OutS) : OutS.turn (.ret v m) k = .ret v m := rfl
@[simp] theorem OutS.turn_exc (c : Nat) (p : Option D) (ρ : Env) (m : Mem) (k : Env → Mem → OutS) : OutS.turn (.exc c p ρ m) k = .exc c p ρ m := rfl
@[simp] theorem OutS.turn_bad (k : Env → Mem → OutS) : OutS.turn .bad k = .bad := rfl
def forGo (b : Env → Mem → OutS) (p : Pat) (w : Watch) : List D → Env → Mem → OutS
  | [], ρ, m => if watchOk w m = true then .next ρ m else .bad
  | x :: xs, ρ, m => if watchOk w m = true then (match bindP p x ρ with
    | some ρ1 => (b ρ1 m).turn fun ρ2 m2 => forGo b p w xs ρ2 m2
    | none => .bad) else .bad
def sFor (it : DenI) (p : Pat) (b : DenS) : DenS := fun fe ρ m => .ofE (it fe ρ m) ρ fun I m1 => unlockS I.lk (forGo (b fe) p I.w I.xs ρ (lockM I.lk m1))
theorem GoodS.turn {G : Gx} {W : WX} {D : Ends} {H : Hp} {β : List Pl} {r : OutS} {k : Env → Mem → OutS} (h : GoodS G W D H β (r.turn k)) {N : L2.St → Hp → Prop} (hn : ∀ ρ m' σ' β' H', Ext β H H' β' → Rp G H' β' m' → RS G H' β' σ' ρ → GoodS G W D H' β' (k ρ m') → N σ' H') :
    GoodS G W { D with nx := N, ct := N, bk := D.nx } H β r := by
  cases r with
  | next ρ m => exact fun σ' β' H' x r s => hn ρ m σ' β' H' x r s (GoodS.ext (show GoodS G W D H β (k ρ m) from h) x)
  | cont ρ m => exact fun σ' β' H' x r s => hn ρ m σ' β' H' x r s (GoodS.ext (show GoodS G W D H β (k ρ m) from h) x)
  | brk ρ m => exact h
  | ret v m => exact h
  | exc c p ρ m => exact h
  | bad => exact h
section
variable {G : Gx} {X : Cx} {W : WX} {fe : FE} {tg iter : Expr} {body : List Stmt} {it : DenI} {p : Pat} {db : DenS} {pos : Pos}
theorem sfor_ok (hp : PassesOwn (model X.prog X.w) X.A X.env X.xe) (hc : X.calm = true) (hi : PI X tg iter (tI G W fe p it)) (hg : PG X tg (tP G p)) (hb : PSs X body (tS G W fe db)) (hs : ∀ x, foldedSetIterable iter X.env x = pure x) :
    PS X (.For tg iter body [] pos) (tS G W fe (sFor it p db)) := PS.imp (ps_for hp hc hi hg hb hs) fun D σ H h => by
  obtain ⟨β, m, ρ, rp, rs, g⟩ := h
  refine ⟨β, m, ρ, rp, rs, GoodO.mono (GoodS.ofE rp rs g) fun I m1 H1 β1 x rp1 g1 hcl J ok => ?_⟩
  obtain ⟨rs1, g1⟩ := g1
  have g2 := GoodS.unlock (canLock_at rp1 hcl) g1
  have rp2 := rp1.lock hcl
  have rs2 := rs1.al (al_flag I.lk true β1)
  generalize flagB I.lk true β1 = βl at g2 rp2 rs2 ok
  generalize lockM I.lk m1 = ml at g2 rp2
  refine ⟨fun i k σ H => ∃ β m ρ, Lt G βl H1 β H ∧ Rp G H β m ∧ RS G H β σ ρ ∧ GoodS G W D H β (forGo (db fe) p I.w (I.xs.drop i) ρ m) ∧ i ≤ I.xs.length ∧ k = I.xs.length - i, ⟨_, βl, ml, ρ, Lt.refl, rp2, rs2, g2, Nat.zero_le _, rfl⟩, ?_⟩
  rintro i k σ H ⟨β, m, ρ, t, rp, rs, g, hi, rfl⟩
  rcases Nat.lt_or_ge i I.xs.length with hlt | hge
  · rw [List.drop_eq_getElem_cons hlt] at g
    have hd : I.xs[i]? = some I.xs[i] := List.getElem?_eq_getElem hlt
    generalize I.xs[i] = d at g hd
    simp only [forGo] at g
    split at g
    · rename_i hw
      cases q : bindP p d ρ with
      | none => rw [q] at g; exact g.elim
      | some ρ1 =>
        rw [q] at g
        simp only at g
        refine .inr ⟨ok.go i d H β m t rp hw hd, fun σ' H' => ∃ β' m' ρ', Lt G βl H1 β' H' ∧ Rp G H' β' m' ∧ RS G H' β' σ' ρ' ∧ GoodS G W D H' β' (forGo (db fe) p I.w (I.xs.drop (i + 1)) ρ' m'), ?_, fun x H' hy => ?_⟩
        · rintro σ' H' ⟨β', m', ρ', h1, h2, h3, h4⟩
          exact ⟨_, by omega, β', m', ρ', h1, h2, h3, h4, hlt, rfl⟩
        · obtain ⟨le, rw'⟩ := ok.yld i d x H H' β m t rp hw hd hy
          have xe : Ext β H H' β := Ext.le le
          refine ⟨β, m, ρ, d, ρ1, rp.le le, rs.ext rp xe, rw', q, fun σ' rs' _ => ⟨β, m, ρ1, rp.le le, rs', ?_⟩⟩
          exact GoodS.turn (GoodS.ext g xe) fun ρ2 m2 σ2 β2 H2 x2 rp2 rs2 g2 => ⟨β2, m2, ρ2, (t.ext rp xe).ext (rp.le le) x2, rp2, rs2, g2⟩
    · exact g.elim
  · have e : i = I.xs.length := by omega
    rw [List.drop_of_length_le hge] at g
    simp only [forGo] at g
    split at g
    · rename_i hw
      refine .inl ⟨by rw [e]; exact ok.stop H β m t rp hw, g σ β H Ext.refl rp rs⟩
    · exact g.elim
end
end Mn
set_option Elab.async false
set_option linter.all false
set_option maxRecDepth 100000
set_option maxHeartbeats 1000000
/-! Mn14: zip, while, comprehensions. -/
namespace Mn
open PySem L2 PySem.Spec PyProof.Rows
/-! ### zip -/
def zipD (xs ys : List D) : List D := List.zipWith (fun x y => .tup [x, y]) xs ys
theorem zipD_get {xs ys : List D} {i : Nat} {d : D} (h : (zipD xs ys)[i]? = some d) : ∃ x y, xs[i]? = some x ∧ ys[i]? = some y ∧ d = .tup [x, y] := by
  unfold zipD at h
  rw [List.getElem?_zipWith] at h
  cases e1 : xs[i]? with
  | none => rw [e1] at h; simp at h
  | some x =>
    cases e2 : ys[i]? with
    | none => rw [e1, e2] at h; simp at h
    | some y =>
      rw [e1, e2] at h
      simp at h
      exact ⟨x, y, rfl, rfl, h.symm⟩
def wD (x : D) (xs : List D) : Watch := match x with
  | .loc l => [(l, .lst xs)]
  | _ => []
/-- the two are both lists or both tuples -/
def zipI (m : Mem) (a b : D) : Option (List D × List D × Watch) := match a, b with
  | .tup xs, .tup ys => some (xs, ys, [])
  | a, b => match listM m a, listM m b with
    | some xs, some ys => some (xs, ys, wD a xs ++ wD b ys)
    | _, _ => none
def iZipD (a : DenA) : DenI := fun fe ρ m => (a fe ρ m).bind fun ds m1 => match ds with
  | [x, y] => match zipI m1 x y with
    | some (xs, ys, w) => .ok ⟨zipD xs ys, w, none⟩ m1
    | none => .bad
  | _ => .bad
section
variable {G : Gx} {H1 : Hp} {β1 : List Pl}
/-- a list that is watched, or that nobody writes -/
structure LstOk (G : Gx) (H1 : Hp) (β1 : List Pl) (a : Addr) (xs : List D) (w : Watch) : Prop where
  at_ : ∀ H β m, Lt G β1 H1 β H → Rp G H β m → watchOk w m = true → ∃ zs, SqL G.K H a zs ∧ RVs G H β zs xs
theorem lstOk {m : Mem} {x : D} {xs : List D} {v : V} (rp : Rp G H1 β1 m) (h : listM m x = some xs) (r : RV G H1 β1 v x) : ∃ a, v = .ref a ∧ (∃ zs, SqL G.K H1 a zs) ∧ LstOk G H1 β1 a xs (wD x xs) := by
  cases x with
  | seq ys =>
    simp only [listM, Option.some.injEq] at h
    subst h
    simp only [RV] at r
    obtain ⟨a, zs, rfl, h1, h2⟩ := r
    exact ⟨a, rfl, ⟨zs, h1.sq⟩, ⟨fun H β m t rp w => ⟨zs, (t.tl.2 _ _ h1).sq, RVs.mono t.tl t.bl _ _ h2⟩⟩⟩
  | loc l =>
    simp only [listM] at h
    split at h
    · rename_i ys e
      simp only [Option.some.injEq] at h
      subst h
      obtain ⟨a, zs, rfl, ha, h1, h2⟩ := rp.lst e r
      exact ⟨a, rfl, ⟨zs, SqL.of h1⟩, ⟨fun H β m t rp w => let ⟨zs, g1, g2⟩ := lst_at ha t rp (watch1 w); ⟨zs, SqL.of g1, g2⟩⟩⟩
    · cases h
  | _ => simp [listM] at h
theorem watch_app {w w' : Watch} {m : Mem} (h : watchOk (w ++ w') m = true) : watchOk w m = true ∧ watchOk w' m = true := by
  simpa [watchOk, List.all_append] using h
theorem it_zipL {K : PySem.W.Frag} (hk : K = G.K) {a b : Addr} {xs ys : List D} {w w' : Watch} {ps : List Pat} (h1 : LstOk G H1 β1 a xs w) (h2 : LstOk G H1 β1 b ys w') : ItOk G (Itz K a b) (.tp ps) (zipD xs ys) (w ++ w') H1 β1 := by
  subst hk
  refine ⟨fun H β m t rp wk => ?_, fun i d H β m t rp wk hi => ?_, fun i d x H H' β m t rp wk hi hy => ?_⟩
  · obtain ⟨k1, k2⟩ := watch_app wk
    obtain ⟨zs, a1, a2⟩ := h1.at_ H β m t rp k1
    obtain ⟨us, b1, b2⟩ := h2.at_ H β m t rp k2
    refine ⟨zs, us, a1, b1, ?_⟩
    rw [a2.length, b2.length]
    simp only [zipD, List.length_zipWith]
    omega
  · obtain ⟨k1, k2⟩ := watch_app wk
    obtain ⟨zs, a1, a2⟩ := h1.at_ H β m t rp k1
    obtain ⟨us, b1, b2⟩ := h2.at_ H β m t rp k2
    obtain ⟨x, y, e1, e2, rfl⟩ := zipD_get hi
    obtain ⟨v1, f1, _⟩ := a2.get e1
    obtain ⟨v2, f2, _⟩ := b2.get e2
    exact ⟨zs, us, v1, v2, a1, b1, f1, f2⟩
  · obtain ⟨k1, k2⟩ := watch_app wk
    obtain ⟨zs, a1, a2⟩ := h1.at_ H β m t rp k1
    obtain ⟨us, b1, b2⟩ := h2.at_ H β m t rp k2
    obtain ⟨x', y', e1, e2, rfl⟩ := zipD_get hi
    obtain ⟨v1, f1, r1⟩ := a2.get e1
    obtain ⟨v2, f2, r2⟩ := b2.get e2
    obtain ⟨T, z1, z2, rfl, hT, rfl, g1, g2⟩ := hy
    have q1 := g1 zs a1
    have q2 := g2 us b1
    rw [f1] at q1; cases q1
    rw [f2] at q2; cases q2
    have le := Hle.upd (o := .tup [v1, v2]) hT
    refine ⟨le, fun ds e => ?_⟩
    cases e
    exact ⟨T, _, rfl, SqT.of upd_same, RVs.cons (RV.mono le.tl (BL.refl _) _ _ r1) (RVs.one (RV.mono le.tl (BL.refl _) _ _ r2))⟩
theorem it_zipT {K : PySem.W.Frag} (hk : K = G.K) {a b : Addr} {zs us : List V} {xs ys : List D} {ps : List Pat} (h1 : FzT G.K H1 a zs) (h2 : RVs G H1 β1 zs xs) (h3 : FzT G.K H1 b us) (h4 : RVs G H1 β1 us ys) : ItOk G (RZ.ItzT K a b) (.tp ps) (zipD xs ys) [] H1 β1 := by
  subst hk
  refine ⟨fun H β m t rp wk => ?_, fun i d H β m t rp wk hi => ?_, fun i d x H H' β m t rp wk hi hy => ?_⟩
  · refine ⟨zs, us, (t.tl.1 _ _ h1).sq, (t.tl.1 _ _ h3).sq, ?_⟩
    rw [h2.length, h4.length]
    simp only [zipD, List.length_zipWith]
    omega
  · obtain ⟨x, y, e1, e2, rfl⟩ := zipD_get hi
    obtain ⟨v1, f1, _⟩ := h2.get e1
    obtain ⟨v2, f2, _⟩ := h4.get e2
    exact ⟨zs, us, v1, v2, (t.tl.1 _ _ h1).sq, (t.tl.1 _ _ h3).sq, f1, f2⟩
  · obtain ⟨x', y', e1, e2, rfl⟩ := zipD_get hi
    obtain ⟨v1, f1, r1⟩ := h2.get e1
    obtain ⟨v2, f2, r2⟩ := h4.get e2
    obtain ⟨T, z1, z2, rfl, hT, rfl, g1, g2⟩ := hy
    have q1 := g1 zs (t.tl.1 _ _ h1).sq
    have q2 := g2 us (t.tl.1 _ _ h3).sq
    rw [f1] at q1; cases q1
    rw [f2] at q2; cases q2
    have le := Hle.upd (o := .tup [v1, v2]) hT
    refine ⟨le, fun ds e => ?_⟩
    cases e
    have r1' := RV.mono t.tl t.bl _ _ r1
    have r2' := RV.mono t.tl t.bl _ _ r2
    exact ⟨T, _, rfl, SqT.of upd_same, RVs.cons (RV.mono le.tl (BL.refl _) _ _ r1') (RVs.one (RV.mono le.tl (BL.refl _) _ _ r2'))⟩
end
section
variable {G : Gx} {X : Cx} {W : WX} {fe : FE} {e e2 : Expr} {elts : List Expr} {kk : Nat} {dA : DenA} {ps : List Pat} {q pos tpos : Pos}
theorem izip_ok (on : On G X) (hg : Gl X "zip") (hm : X.mg "zip" = none) (ha : PA X [e, e2] (tA G W fe dA)) (hs : starEach [e, e2] X.env = (false, eval e X.env) :: starEach [e2] X.env) (hpl : (backTo pos (starEach [e2] X.env)).any (·.1) = false) :
    PI X (.Tuple elts kk tpos) (.Call (.Name "zip" q) [e, e2] [] pos) (tI G W fe (.tp ps) (iZipD dA)) := PI.imp (RZ.pi_zipA hg hm ha hs hpl) fun σ H R h => by
  obtain ⟨β, m, ρ, rp, rs, g⟩ := h
  refine ⟨β, m, ρ, rp, rs, GoodO.mono (GoodO.bind g) fun ds m1 H1 β1 e1 rp1 g1 vs rvs => ?_⟩
  split at g1
  · rename_i x y
    obtain ⟨v1, v2, rfl, r1, r2⟩ := rvs.split2
    cases z : zipI m1 x y with
    | none => rw [z] at g1; exact False.elim g1
    | some t =>
      obtain ⟨xs, ys, w⟩ := t
      rw [z] at g1
      unfold zipI at z
      split at z
      · simp only [Option.some.injEq, Prod.mk.injEq] at z
        obtain ⟨rfl, rfl, rfl⟩ := z
        simp only [RV] at r1 r2
        obtain ⟨a, zs, rfl, h1, h2⟩ := r1
        obtain ⟨b, us, rfl, h3, h4⟩ := r2
        exact ⟨a, b, zs, us, rfl, .inr ⟨on.K ▸ h1.sq, on.K ▸ h3.sq, g1 β1 H1 Ext.refl rp1 trivial _ (it_zipT on.K h1 h2 h3 h4)⟩⟩
      · split at z
        · rename_i xs' ys' z1 z2
          simp only [Option.some.injEq, Prod.mk.injEq] at z
          obtain ⟨rfl, rfl, rfl⟩ := z
          obtain ⟨a, rfl, ⟨zs, h1⟩, h2⟩ := lstOk rp1 z1 r1
          obtain ⟨b, rfl, ⟨us, h3⟩, h4⟩ := lstOk rp1 z2 r2
          exact ⟨a, b, zs, us, rfl, .inl ⟨on.K ▸ h1, on.K ▸ h3, g1 β1 H1 Ext.refl rp1 trivial _ (it_zipL on.K h2 h4)⟩⟩
        · cases z
  · exact False.elim g1
end
/-! ### while -/
def whileGo (t : Env → Mem → Out Bool) (b : Env → Mem → OutS) : Nat → Env → Mem → OutS
  | 0, _, _ => .bad
  | n + 1, ρ, m => .ofE (t ρ m) ρ fun c m1 => if c = true then (b ρ m1).turn fun ρ2 m2 => whileGo t b n ρ2 m2 else .next ρ m1
open Classical in
noncomputable def sWhile (t : DenT) (b : DenS) : DenS := fun fe ρ m => if h : ∃ n, whileGo (t fe) (b fe) n ρ m ≠ .bad then whileGo (t fe) (b fe) h.choose ρ m else .bad
theorem whileGo_mono {t : Env → Mem → Out Bool} {b : Env → Mem → OutS} : ∀ (n k : Nat) (ρ : Env) (m : Mem), whileGo t b n ρ m ≠ .bad → n ≤ k → whileGo t b k ρ m = whileGo t b n ρ m
  | 0, _, _, _, h, _ => absurd rfl h
  | n + 1, 0, _, _, _, h => absurd h (by omega)
  | n + 1, k + 1, ρ, m, h, hk => by
    simp only [whileGo] at h ⊢
    cases e : t ρ m with
    | ok c m1 =>
      rw [e] at h
      simp only [OutS.ofE_ok] at h ⊢
      cases c with
      | true =>
        simp only [if_true] at h ⊢
        cases e2 : b ρ m1 with
        | next ρ2 m2 => rw [e2] at h; exact whileGo_mono n k ρ2 m2 h (by omega)
        | cont ρ2 m2 => rw [e2] at h; exact whileGo_mono n k ρ2 m2 h (by omega)
        | _ => rfl
      | false => rfl
    | exc c p m1 => rfl
    | bad => rfl
/-- what some number of turns tells -/
theorem sWhile_is {t : DenT} {b : DenS} {fe : FE} {ρ : Env} {m : Mem} {r : OutS} (n : Nat) (h : whileGo (t fe) (b fe) n ρ m = r) (hr : r ≠ .bad) : sWhile t b fe ρ m = r := by
  have hx : ∃ n, whileGo (t fe) (b fe) n ρ m ≠ .bad := ⟨n, by rw [h]; exact hr⟩
  unfold sWhile
  rw [dif_pos hx]
  rcases Nat.le_total n hx.choose with c | c
  · rw [whileGo_mono n hx.choose ρ m (by rw [h]; exact hr) c, h]
  · rw [← whileGo_mono hx.choose n ρ m hx.choose_spec c, h]
section
variable {G : Gx} {X : Cx} {W : WX} {fe : FE} {c : Expr} {body : List Stmt} {dt : DenT} {db : DenS} {pos : Pos}
theorem swhile_ok (hp : PassesOwn (model X.prog X.w) X.A X.env X.xe) (hc : PT X c (tT G W fe dt)) (hb : PSs X body (tS G W fe db)) : PS X (.While c body [] pos) (tS G W fe (sWhile dt db)) := PS.imp (ps_while hp hc hb) fun D σ H h => by
  obtain ⟨β, m, ρ, rp, rs, g⟩ := h
  unfold sWhile at g
  split at g
  · rename_i hx
    generalize hx.choose = n at g
    refine ⟨fun n σ H => ∃ β m ρ, Rp G H β m ∧ RS G H β σ ρ ∧ GoodS G W D H β (whileGo (dt fe) (db fe) n ρ m), ⟨n, β, m, ρ, rp, rs, g⟩, ?_⟩
    rintro n σ H ⟨β, m, ρ, rp, rs, g⟩
    cases n with
    | zero => exact g.elim
    | succ n =>
      simp only [whileGo] at g
      refine ⟨β, m, ρ, rp, rs, GoodO.mono (GoodS.ofE rp rs g) fun c m1 H1 β1 x rp1 g1 => ?_⟩
      obtain ⟨rs1, g1⟩ := g1
      cases c with
      | true =>
        simp only [if_true] at g1 ⊢
        refine ⟨fun σ' H' => ∃ β' m' ρ', Rp G H' β' m' ∧ RS G H' β' σ' ρ' ∧ GoodS G W D H' β' (whileGo (dt fe) (db fe) n ρ' m'), fun σ' H' h => ⟨n, Nat.lt_succ_self n, h⟩, β1, m1, ρ, rp1, rs1, ?_⟩
        exact GoodS.turn g1 fun ρ2 m2 σ2 β2 H2 x2 rp2 rs2 g2 => ⟨β2, m2, ρ2, rp2, rs2, g2⟩
      | false => exact g1 σ β1 H1 Ext.refl rp1 rs1
  · exact g.elim
end
/-! ### comprehensions -/
def noX {α : Type} : Out α → Out α
  | .exc _ _ _ => .bad
  | r => r
@[simp] theorem noX_ok {α : Type} (a : α) (m : Mem) : noX (.ok a m) = .ok a m := rfl
def wipeE (ρ : Env) : List Nat → Env
  | [] => ρ
  | v :: vs => (wipeE ρ vs).set v none
theorem RS.wipe {G : Gx} {H : Hp} {β : List Pl} {σ : L2.St} {ρ : Env} (r : RS G H β σ ρ) : ∀ vs, RS G H β (L2.wipe σ vs) (wipeE ρ vs)
  | [] => r
  | v :: vs => (RS.wipe r vs).unset v none
def lcGo (t : Env → Mem → Out Bool) (e : Env → Mem → Out D) (p : Pat) (w : Watch) (ρ : Env) : List D → List D → Mem → Out (List D)
  | [], acc, m => if watchOk w m = true then .ok acc m else .bad
  | x :: xs, acc, m => if watchOk w m = true then (match bindP p x ρ with
    | some ρ1 => (noX (t ρ1 m)).bind fun b m1 => if b = true then (noX (e ρ1 m1)).bind fun y m2 => if acc.length < sizeLine then lcGo t e p w ρ xs (acc ++ [y]) m2 else .bad else lcGo t e p w ρ xs acc m1
    | none => .bad) else .bad
def tYesD : DenT := fun _ _ m => .ok true m
def unlockL (lk : Option Nat) : Out (List D) → Out D
  | .ok acc m => .ok (.loc m.length) (unlockM lk m ++ [.lst acc])
  | .exc c p m => .exc c p (unlockM lk m)
  | .bad => .bad
/-- [e for p in it if t] -/
def xLc (it : DenI) (p : Pat) (t : DenT) (e : Den) (own : List Nat) : Den := fun fe ρ m => (it fe ρ m).bind fun I m1 => unlockL I.lk (lcGo (t fe) (e fe) p I.w (wipeE ρ own) I.xs [] (lockM I.lk m1))
section
variable {G : Gx} {H : Hp} {β : List Pl} {m : Mem}
/-- a list that stands by itself -/
theorem Rp.other {A : Addr} {ys zs : List V} (r : Rp G H β m) (hd : ∀ f, (A, f) ∉ β) (h : H A = some (.lst ys)) : Rp G (upd H A (.lst zs)) β m := by
  have t : TL G.K H (upd H A (.lst zs)) := by
    have ne : ∀ b o, H b = some o → o ≠ .lst ys → b ≠ A := fun b o e n z => n (by rw [z, h] at e; exact (Option.some.inj e).symm)
    refine ⟨fun b xs x => ?_, fun b xs x => ?_⟩
    · rcases x with ⟨o, x, hd⟩ | x
      · exact .inl ⟨o, by rw [upd_ne (ne _ _ x (by intro z; cases z))]; exact x, hd⟩
      · exact .inr x
    · rcases x with ⟨o, x⟩ | x
      · exact .inl ⟨o, by rw [upd_ne (ne _ _ x (by intro z; cases z))]; exact x⟩
      · exact .inr x
  refine ⟨r.len, r.nd, fun l o a f e1 e2 => ⟨(r.at_ l o a f e1 e2).1, (r.at_ l o a f e1 e2).2.mono t (BL.refl _) (fun u e => ?_) fun dx q => ?_⟩⟩
  · rw [upd_ne (fun z => hd f (by rw [← z]; exact List.mem_of_getElem? e2))]; exact e
  · rw [upd_ne (fun z => by rw [z, h] at q; cases q)]; exact q
theorem tl_other {A : Addr} {ys zs : List V} (h : H A = some (.lst ys)) : TL G.K H (upd H A (.lst zs)) := by
  have ne : ∀ b o, H b = some o → o ≠ .lst ys → b ≠ A := fun b o e n z => n (by rw [z, h] at e; exact (Option.some.inj e).symm)
  refine ⟨fun b xs x => ?_, fun b xs x => ?_⟩
  · rcases x with ⟨o, x, hd⟩ | x
    · exact .inl ⟨o, by rw [upd_ne (ne _ _ x (by intro z; cases z))]; exact x, hd⟩
    · exact .inr x
  · rcases x with ⟨o, x⟩ | x
    · exact .inl ⟨o, by rw [upd_ne (ne _ _ x (by intro z; cases z))]; exact x⟩
    · exact .inr x
/-- the list becomes a place -/
theorem Rp.join {A : Addr} {ys : List V} {ds : List Mn.D} (r : Rp G H β m) (hd : ∀ f, (A, f) ∉ β) (h : H A = some (.lst ys)) (q : RVs G H β ys ds) : Rp G H (β ++ [(A, false)]) (m ++ [.lst ds]) where
  len := by simp [r.len]
  nd := by
    rw [List.map_append, List.nodup_append]
    refine ⟨r.nd, by simp, fun a ha b hb => ?_⟩
    simp only [List.map_cons, List.map_nil, List.mem_singleton] at hb
    subst hb
    obtain ⟨q, hq, rfl⟩ := List.mem_map.mp ha
    intro e
    obtain ⟨b, f⟩ := q
    have e' : b = _ := e
    subst e'
    exact hd f hq
  at_ := fun l o' a f e1 e2 => by
    by_cases hl : l < m.length
    · rw [List.getElem?_append_left hl] at e1
      rw [List.getElem?_append_left (by rw [r.len]; exact hl)] at e2
      exact ⟨(r.at_ l o' a f e1 e2).1, (r.at_ l o' a f e1 e2).2.mono (TL.refl _ _) ⟨_, rfl⟩ (fun _ e => e) fun _ e => e⟩
    · have hl2 : l = m.length := by
        have := (List.getElem?_eq_some_iff.mp e1).1
        simp only [List.length_append, List.length_singleton] at this
        omega
      subst hl2
      rw [List.getElem?_append_right (Nat.le_refl _)] at e1
      rw [List.getElem?_append_right (by rw [r.len]; exact Nat.le_refl _)] at e2
      simp only [Nat.sub_self, List.getElem?_cons_zero, Option.some.injEq, r.len] at e1 e2
      subst e1
      cases e2
      exact ⟨rfl, ys, h, RVs.mono (TL.refl _ _) ⟨_, rfl⟩ _ _ q⟩
end
theorem wipe_off {σ σ2 : L2.St} {is vs : List Nat} (h : Off is (L2.wipe σ vs) σ2) (hs : ∀ i ∈ is, i ∈ vs) : L2.wipe σ2 vs = L2.wipe σ vs := by
  apply List.ext_getElem?
  intro i
  by_cases hi : i ∈ vs
  · have aux : ∀ (τ : L2.St) (ws : List Nat), i ∈ ws → i < τ.length → (L2.wipe τ ws)[i]? = some none := by
      intro τ ws
      induction ws with
      | nil => intro h; simp at h
      | cons w ws ih =>
        intro h hl
        unfold L2.wipe
        by_cases hw : w = i
        · subst hw; exact List.getElem?_set_self (by rw [wipe_length]; exact hl)
        · rw [List.getElem?_set_ne hw]
          rcases List.mem_cons.mp h with e | h
          · exact absurd e.symm hw
          · exact ih h hl
    by_cases hl : i < σ.length
    · rw [aux σ2 vs hi (by rw [h.1, wipe_length]; exact hl), aux σ vs hi hl]
    · rw [List.getElem?_eq_none (by rw [wipe_length, h.1, wipe_length]; omega), List.getElem?_eq_none (by rw [wipe_length]; omega)]
  · rw [wipe_out hi, wipe_out hi, h.2 i (fun z => hi (hs i z)), wipe_out hi]
section
variable {G : Gx} {X : Cx} {W : WX} {fe : FE} {elt tg iter : Expr} {ifs : List Expr} {scope : Scope} {own : List (Str × Nat)} {pos spos : Pos} {it : DenI} {p : Pat} {dt : DenT} {de : Den}
abbrev noW : WX := fun _ _ _ _ => False
theorem PTs.imp {X : Cx} {e : List Expr} {t t' : TT} (h : PTs X e t) (f : ∀ σ H Q, t' σ H Q → t σ H Q) : PTs X e t' := ⟨fun pins s σ H Q I x => h.run pins s σ H Q I (f σ H Q x)⟩
theorem tyes_ok {X : Cx} : PTs X [] (tT G W fe tYesD) := PTs.imp pts_nil fun σ H Q ⟨β, m, ρ, rp, rs, g⟩ => g β H Ext.refl rp
theorem tone_ok {X : Cx} {c : Expr} {dt : DenT} (h : PT X c (tT G W fe dt)) : PTs X [c] (tT G W fe dt) := pts_one h
theorem Rp.noflag {H : Hp} {β : List Pl} {m : Mem} {A : Addr} {vs : List V} (r : Rp G H β m) (h : H A = some (.lst vs)) : (A, true) ∉ β := by
  intro hb
  obtain ⟨l, hl⟩ := List.mem_iff_getElem?.mp hb
  have hlt := (List.getElem?_eq_some_iff.mp hl).1
  rw [r.len] at hlt
  obtain ⟨hf, ro⟩ := r.at_ l _ A true (List.getElem?_eq_getElem hlt) hl
  generalize m[l] = o at hf ro
  cases o with
  | lst ds => cases hf
  | dict kvs lk => obtain ⟨_, _, es, ep, h1, _⟩ := ro; rw [h] at h1; cases h1
  | inst c fs => cases hf
theorem nd_next {H H' : Hp} {β β' : List Pl} {A : Addr} {o : HO} (nd : ∀ f, (A, f) ∉ β) (hA : H A = some o) (x : Ext β H H' β') : ∀ f, (A, f) ∉ β' := by
  intro f hf
  rcases x.nw A f hf with z | z | z
  · exact nd false z
  · exact nd f z
  · rw [hA] at z; cases z
theorem GoodO.noX {α : Type} {W W' : XK} {H : Hp} {β : List Pl} {K : α → Mem → Hp → List Pl → Prop} {r : Out α} (h : GoodO G W H β K (noX r)) : GoodO G W' H β K r := by
  cases r with
  | ok a m => exact h
  | exc c p m => exact h.elim
  | bad => exact h
theorem lc_red (on : On G X) (hs : ∀ i ∈ p.slots, i ∈ own.map (·.2)) {σ : L2.St} {H : Hp} {Q : VK} (h : tE G W fe (xLc it p dt de (own.map (·.2))) σ H Q) : tLc (tI G W fe p it) (tP G p) (tT G noW fe dt) (tE G noW fe de) (own.map (·.2)) σ H Q := by
  obtain ⟨β, m, ρ, rp, rs, g⟩ := h
  refine ⟨β, m, ρ, rp, rs, GoodO.mono (GoodO.bind (GoodE.iff.mp g)) fun I m1 H1 β1 x rp1 g1 hcl J ok A hA => ?_⟩
  have rs1 := rs.ext rp x
  have rp2 := rp1.lock hcl
  have rs2 := rs1.al (al_flag I.lk true β1)
  have hcat := canLock_at rp1 hcl
  have hlen : ∀ l, I.lk = some l → l < β1.length := fun l e => by obtain ⟨a, ha⟩ := hcat l e; exact (List.getElem?_eq_some_iff.mp ha).1
  have hfin : ∀ {β2 : List Pl} {m2 : Mem} {H2 : Hp} {acc : List D} {vs : List V}, Ext (flagB I.lk true β1) H1 H2 β2 → (∀ f, (A, f) ∉ β2) → Rp G H2 β2 m2 → H2 A = some (.lst vs) → RVs G H2 β2 vs acc → lcGo (dt fe) (de fe) p I.w (wipeE ρ (own.map (·.2))) I.xs [] (lockM I.lk m1) = .ok acc m2 → Q (.ref A) H2 := by
    intro β2 m2 H2 acc vs x2 nd2 rp3 hA2 rv e
    rw [e] at g1
    have xo := Ext.unlock hcat x2
    have al := al_flag I.lk false β2
    have ru := rp3.unlock hlen x2.bl
    have nd' : ∀ f, (A, f) ∉ flagB I.lk false β2 := fun f hf => by
      have hm : A ∈ (flagB I.lk false β2).map (·.1) := List.mem_map.mpr ⟨_, hf, rfl⟩
      rw [flag_map] at hm
      obtain ⟨q, hq, e⟩ := List.mem_map.mp hm
      obtain ⟨b, f'⟩ := q
      cases (show b = A from e)
      exact nd2 f' hq
    have rj := ru.join nd' hA2 (RVs.al al _ _ rv)
    refine g1 (flagB I.lk false β2 ++ [(A, false)]) H2 ⟨xo.bl.trans ⟨_, rfl⟩, xo.fr, fun b f hb => ?_⟩ rj (.ref A) ?_
    · rcases List.mem_append.mp hb with hb | hb
      · exact xo.nw b f hb
      · simp only [List.mem_singleton] at hb
        cases hb; exact .inr (.inr hA)
    · simp only [RV]
      refine ⟨A, false, rfl, ?_⟩
      rw [show m2.length = (flagB I.lk false β2).length from ?_]
      · simp
      · have := congrArg List.length (flag_map I.lk false β2)
        simp only [List.length_map] at this
        rw [this, rp3.len]
  have hbad : lcGo (dt fe) (de fe) p I.w (wipeE ρ (own.map (·.2))) I.xs [] (lockM I.lk m1) ≠ .bad := fun e => by rw [e] at g1; exact g1
  clear g1 g
  generalize flagB I.lk true β1 = βl at hfin rp2 rs2 ok
  generalize lockM I.lk m1 = ml at hfin rp2 hbad
  generalize e0 : lcGo (dt fe) (de fe) p I.w (wipeE ρ (own.map (·.2))) I.xs [] ml = r0 at hfin hbad
  have le0 : Hle H1 (upd H1 A (.lst [])) := Hle.upd hA
  have nd0 : ∀ f, (A, f) ∉ βl := fun f => rp2.fresh hA f
  have xnew : ∀ {β4 : List Pl} {H4 : Hp} {zs : List V}, Ext βl H1 H4 β4 → Ext βl H1 (upd H4 A (.lst zs)) β4 := fun {β4 H4 zs} x => ⟨x.bl, fun b o e n => by
    rw [upd_ne (ne_of_none e hA)]; exact x.fr b o e n, x.nw⟩
  refine ⟨fun i k H => ∃ β m acc vs, Ext βl H1 H β ∧ (∀ f, (A, f) ∉ β) ∧ Lt G βl H1 β H ∧ Rp G H β m ∧ H A = some (.lst vs) ∧ RVs G H β vs acc ∧ lcGo (dt fe) (de fe) p I.w (wipeE ρ (own.map (·.2))) (I.xs.drop i) acc m = r0 ∧ i ≤ I.xs.length ∧ k = I.xs.length - i,
    ⟨_, βl, ml, [], [], Ext.le le0, nd0, Lt.refl.ext rp2 (Ext.le le0), rp2.le le0, upd_same, RVs.nil, e0, Nat.zero_le _, rfl⟩, ?_⟩
  rintro i k H ⟨β, m, acc, vs, xe, nd, t, rp, hA', rv, e, hi, rfl⟩
  rcases Nat.lt_or_ge i I.xs.length with hlt | hge
  · rw [List.drop_eq_getElem_cons hlt] at e
    have hd : I.xs[i]? = some I.xs[i] := List.getElem?_eq_getElem hlt
    generalize I.xs[i] = d at e hd
    simp only [lcGo] at e
    by_cases hw : watchOk I.w m = true
    · rw [if_pos hw] at e
      cases q : bindP p d (wipeE ρ (own.map (·.2))) with
      | none => rw [q] at e; exact absurd e.symm hbad
      | some ρ1 =>
        rw [q] at e
        simp only at e
        refine .inr ⟨ok.go i d H β m t rp hw hd, fun H' => ∃ β m acc vs, Ext βl H1 H' β ∧ (∀ f, (A, f) ∉ β) ∧ Lt G βl H1 β H' ∧ Rp G H' β m ∧ H' A = some (.lst vs) ∧ RVs G H' β vs acc ∧ lcGo (dt fe) (de fe) p I.w (wipeE ρ (own.map (·.2))) (I.xs.drop (i + 1)) acc m = r0, ?_, fun x H' hy => ?_⟩
        · rintro H' ⟨β', m', acc', vs', h1, h2, h3, h4, h5, h6, h7⟩
          exact ⟨_, by omega, β', m', acc', vs', h1, h2, h3, h4, h5, h6, h7, hlt, rfl⟩
        · obtain ⟨le, rw'⟩ := ok.yld i d x H H' β m t rp hw hd hy
          refine ⟨β, m, wipeE ρ (own.map (·.2)), d, ρ1, rp.le le, (rs2.wipe _).mono (t.tl.trans le.tl) t.bl, rw', q, fun σ' rs' off => ⟨wipe_off off hs, β, m, ρ1, rp.le le, rs', ?_⟩⟩
          cases ed : dt fe ρ1 m with
          | exc c pp m3 => rw [ed] at e; exact absurd e.symm hbad
          | bad => rw [ed] at e; exact absurd e.symm hbad
          | ok b m3 =>
            rw [ed] at e
            simp only [noX_ok, Out.bind_ok] at e
            intro β3 H3 x3 rp3
            have xe3 : Ext βl H1 H3 β3 := xe.trans ((Ext.le le).trans x3)
            have hA3 : H3 A = some (.lst vs) := x3.fr _ _ (le _ _ hA') (nd false)
            have nd3 : ∀ f, (A, f) ∉ β3 := nd_next nd (le _ _ hA') x3
            have t3 : Lt G βl H1 β3 H3 := (t.ext rp (Ext.le le)).ext (rp.le le) x3
            have rv3 : RVs G H3 β3 vs acc := RVs.mono (le.tl.trans (x3.tl (rp.le le))) x3.bl _ _ rv
            cases b with
            | false =>
              simp only [Bool.false_eq_true, if_false] at e ⊢
              exact ⟨β3, m3, acc, vs, xe3, nd3, t3, rp3, hA3, rv3, e⟩
            | true =>
              simp only [if_true] at e ⊢
              refine ⟨β3, m3, ρ1, rp3, rs'.ext (rp.le le) x3, ?_⟩
              cases ee : de fe ρ1 m3 with
              | exc c pp m4 => rw [ee] at e; exact absurd e.symm hbad
              | bad => rw [ee] at e; exact absurd e.symm hbad
              | ok y m4 =>
                rw [ee] at e
                simp only [noX_ok, Out.bind_ok] at e
                intro u β4 H4 x4 rp4 ru
                by_cases hl : acc.length < sizeLine
                · rw [if_pos hl] at e
                  have hA4 : H4 A = some (.lst vs) := x4.fr _ _ hA3 (nd3 false)
                  have nd4 : ∀ f, (A, f) ∉ β4 := nd_next nd3 hA3 x4
                  have t4 := t3.ext rp3 x4
                  refine ⟨vs, hA4, by rw [rv.length]; exact hl, β4, m4, acc ++ [y], vs ++ [u], xnew (xe3.trans x4), nd4, ⟨t4.tl.trans (tl_other hA4), t4.bl, fun b o hb e => ?_⟩, rp4.other nd4 hA4, upd_same, ?_, e⟩
                  · rw [upd_ne (ne_of_none e hA)]; exact t4.lk b o hb e
                  · exact RVs.mono (tl_other hA4) (BL.refl _) _ _ ((RVs.mono (x4.tl rp3) x4.bl _ _ rv3).append (RVs.one ru))
                · rw [if_neg hl] at e; exact absurd e.symm hbad
    · rw [if_neg hw] at e; exact absurd e.symm hbad
  · have ei : i = I.xs.length := by omega
    rw [List.drop_of_length_le hge] at e
    simp only [lcGo] at e
    by_cases hw : watchOk I.w m = true
    · rw [if_pos hw] at e
      exact .inl ⟨by rw [ei]; exact ok.stop H β m t rp hw, hfin xe nd rp hA' rv e.symm⟩
    · rw [if_neg hw] at e; exact absurd e.symm hbad
theorem xlc_ok (on : On G X) (hc : X.calm = true) (hN : X.N.Nodup) (hi : PI X tg iter (tI G W fe p it)) (ok : BlkOk X.N X.env.scope scope own)
    (hg : ∀ (s : Shared) (H : Hp) (C : Addr) (cl : List (Str × Addr)) (fp : List Addr), PG (X.blk s H scope (compEnvC scope cl C X.env) fp) tg (tP G p)) (ht : ∀ (s : Shared) (H : Hp) (C : Addr) (cl : List (Str × Addr)) (fp : List Addr), PTs (X.blk s H scope (compEnvC scope cl C X.env) fp) ifs (tT G noW fe dt))
    (he : ∀ (s : Shared) (H : Hp) (C : Addr) (cl : List (Str × Addr)) (fp : List Addr), PE (X.blk s H scope (compEnvC scope cl C X.env) fp) elt (tE G noW fe de)) (hs : ∀ x, foldedSetIterable iter X.env x = pure x) (hsl : ∀ i ∈ p.slots, i ∈ own.map (·.2)) :
    PE X (.ListComp elt [⟨tg, iter, ifs, 0⟩] scope pos) (tE G W fe (xLc it p dt de (own.map (·.2)))) := PE.imp (pe_lc hc hN hi ok hg ht he hs) fun σ H Q h => lc_red on hsl h
/-- name = [..] on one line -/
theorem ssetLc_ok {i : Nat} {y : Str} {py : Pos} (on : On G X) (hc : X.calm = true) (hN : X.N.Nodup) (hy : X.N[i]? = some y) (hyl : X.env.scope.names.lookup y = some .local)
    (hsw : swapsWith (.ListComp elt [⟨tg, iter, ifs, 0⟩] scope pos) (some (.Name y py)) spos.line X.env = pure true) (hi : PI X tg iter (tI G W fe p it)) (ok : BlkOk X.N X.env.scope scope own)
    (hg : ∀ (s : Shared) (H : Hp) (C : Addr) (cl : List (Str × Addr)) (fp : List Addr), PG (X.blk s H scope (compEnvC scope cl C X.env) fp) tg (tP G p)) (ht : ∀ (s : Shared) (H : Hp) (C : Addr) (cl : List (Str × Addr)) (fp : List Addr), PTs (X.blk s H scope (compEnvC scope cl C X.env) fp) ifs (tT G noW fe dt))
    (he : ∀ (s : Shared) (H : Hp) (C : Addr) (cl : List (Str × Addr)) (fp : List Addr), PE (X.blk s H scope (compEnvC scope cl C X.env) fp) elt (tE G noW fe de)) (hs : ∀ x, foldedSetIterable iter X.env x = pure x) (hsl : ∀ i ∈ p.slots, i ∈ own.map (·.2)) :
    PS X (.Assign [.Name y py] (.ListComp elt [⟨tg, iter, ifs, 0⟩] scope pos) spos) (tS G W fe (sSet i (xLc it p dt de (own.map (·.2))))) := PS.imp (ps_setLc hc hN hy hyl hsw hi ok hg ht he hs) fun D σ H h => by
  obtain ⟨β, m, ρ, rp, rs, g⟩ := h
  refine lc_red on hsl ⟨β, m, ρ, rp, rs, GoodS.ofEE rp rs g fun v m1 H1 β1 u x rp1 rs1 ru g1 => g1 _ β1 H1 Ext.refl rp1 (rs1.set i ru)⟩
end
end Mn
set_option Elab.async false
set_option linter.all false
set_option maxRecDepth 100000
set_option maxHeartbeats 1000000
/-! Mn15: displays of dicts, isinstance. -/
namespace Mn
open PySem L2 PySem.Spec PyProof.Rows
section
variable {G : Gx} {X : Cx} {pins : List (Addr × Obj)} {σ : L2.St} {H : Hp} {s : Shared} {β : List Pl} {a : Addr} {es : Array DictEntry} {ep : Nat} {kvs : List (D × D)} {k : D} {y : V} {u : Value} {A : Around} {E : Value → Shared → Prop}
theorem dset_ok {m : Mem} {l : Nat} {d : D} {dv : V} {du : Value} {Q : Unit → Shared → Prop} (on : On G X) (hu : A.units + 64 < cLine) (I : L2.Inv X pins σ H s) (rp : Rp G H β m) (ha : β[l]? = some (a, false)) (hs : (a == sysModules) = false) (hl : kvs.length ≤ sizeLine) (hz : (dPut kvs k d).length ≤ sizeLine) (h : H a = some (dictO a es ep)) (e : EntM G H β es kvs ∨ EntN G H β es kvs) (hk : kindOk kvs k = true) (ry : RV G H β y k) (ru : RelV y u)
    (rd : RV G H β dv d) (rdu : RelV dv du) (hq : ∀ es' ep' s', L2.Inv X pins σ (upd H a (dictO a es' ep')) s' → Rp G (upd H a (dictO a es' ep')) β (m.set l (.dict (dPut kvs k d) false)) → Q () s') : wpAny (model X.prog X.w) A (dictSet a u du) Q E s := by
  rcases kind_cases hk with ⟨k', e1, e2⟩ | ⟨k', e1, e2, ⟨xs, e3⟩, e4⟩
  · obtain ⟨ks, dd, pm⟩ := dict_M on I h e e2
    have yk := keyM_kV e1 ry
    subst yk
    refine wpAny_dictSet_pairs (hsz := by rw [Paired.length pm]; exact hl) (kV_is ru) dd (fun h' dd' hsb => ?_)
    obtain ⟨es', ep', I', rp'⟩ := stored_M (t' := s.toks + 1) on I rp ha hs h hz dd' hsb (pm.put e1 ⟨dv, rdu, rd⟩)
    exact hq es' ep' _ I' rp'
  · obtain ⟨ks, dd, pn⟩ := dict_N on I h e e4
    subst e3
    have ry' := ry
    simp only [RV] at ry'
    obtain ⟨b, ys, rfl, _, _⟩ := ry'
    cases ru
    refine wpAny_dictSet_heap (knd := nestedKind X.prog X.w) (k := k') (hsz := by rw [Paired.length pn]; exact hl) (nroom0 hu) ⟨nested_is on I _ _ _ _ e1 ry rfl, e2⟩ dd fun h' dd' hsb => ?_
    obtain ⟨es', ep', I', rp'⟩ := stored_N (t' := s.toks + (nestedKind X.prog X.w).draws k') on I rp ha hs h hz dd' hsb (pn.put e1 e2 ry ⟨dv, rdu, rd⟩)
    exact hq es' ep' _ I' rp'
end
/-- pairs stored one after the other -/
def dictP : List (D × D) → List (D × D) → Option (List (D × D))
  | acc, [] => some acc
  | acc, (k, v) :: r => if kindOk acc k = true ∧ (dPut acc k v).length ≤ sizeLine then dictP (dPut acc k v) r else none
def kvD : List (Den × Den) → FE → Env → Mem → Out (List (D × D))
  | [], _, _, m => .ok [] m
  | (a, b) :: r, fe, ρ, m => (a fe ρ m).bind fun x m1 => (b fe ρ m1).bind fun y m2 => (kvD r fe ρ m2).bind fun ps m3 => .ok ((x, y) :: ps) m3
def xDict (l : List (Den × Den)) : Den := fun fe ρ m => (kvD l fe ρ m).bind fun ps m1 => match dictP [] ps with
  | some kvs => .ok (.loc m1.length) (m1 ++ [.dict kvs false])
  | none => .bad
def xEmpty : Den := fun _ _ m => .ok (.loc m.length) (m ++ [.dict [] false])
section
variable {G : Gx} {X : Cx} {W : WX} {fe : FE} {pos : Pos} {keys : List (Option Expr)} {values : List Expr} {l : List (Den × Den)}
theorem empty_ent {H : Hp} {β : List Pl} : EntM G H β #[] [] := ⟨[], fun e he => by simp at he, .nil, by simp, .nil⟩
/-- a dict that stands by itself becomes a place -/
theorem Rp.joinD {H : Hp} {β : List Pl} {m : Mem} {a : Addr} (r : Rp G H β m) (hd : ∀ f, (a, f) ∉ β) (hs : (a == sysModules) = false) (h : H a = some (dictO a #[] 0)) : Rp G H (β ++ [(a, false)]) (m ++ [.dict [] false]) where
  len := by simp [r.len]
  nd := by
    rw [List.map_append, List.nodup_append]
    refine ⟨r.nd, by simp, fun b ha c hb => ?_⟩
    simp only [List.map_cons, List.map_nil, List.mem_singleton] at hb
    subst hb
    obtain ⟨q, hq, rfl⟩ := List.mem_map.mp ha
    intro e
    obtain ⟨b, f⟩ := q
    have e' : b = _ := e
    subst e'
    exact hd f hq
  at_ := fun l o' b f e1 e2 => by
    by_cases hl : l < m.length
    · rw [List.getElem?_append_left hl] at e1
      rw [List.getElem?_append_left (by rw [r.len]; exact hl)] at e2
      exact ⟨(r.at_ l o' b f e1 e2).1, (r.at_ l o' b f e1 e2).2.mono (TL.refl _ _) ⟨_, rfl⟩ (fun _ e => e) fun _ e => e⟩
    · have hl2 : l = m.length := by
        have := (List.getElem?_eq_some_iff.mp e1).1
        simp only [List.length_append, List.length_singleton] at this
        omega
      subst hl2
      rw [List.getElem?_append_right (Nat.le_refl _)] at e1
      rw [List.getElem?_append_right (by rw [r.len]; exact Nat.le_refl _)] at e2
      simp only [Nat.sub_self, List.getElem?_cons_zero, Option.some.injEq, r.len] at e1 e2
      subst e1
      cases e2
      exact ⟨rfl, hs, Nat.zero_le _, #[], 0, h, .inl empty_ent⟩
theorem dictO_laid {pins : List (Addr × Obj)} {σ : L2.St} {H : Hp} {s : Shared} (I : L2.Inv X pins σ H s) : L2.Inv X pins σ (upd H s.heap.objs.size (dictO s.heap.objs.size #[] 0)) { s with heap := s.heap.push { cls := .type "dict", data := .dict #[] } } :=
  I.laid (a := s.heap.objs.size) (t' := s.toks) (fun _ _ q => Heap.get?_push_of_some _ q) (Nat.le_refl _) (dictO_new ⟨_, Heap.get?_push_size _ rfl, ⟨rfl, rfl, rfl⟩, rfl⟩)
theorem big_ne {pins : List (Addr × Obj)} {σ : L2.St} {H : Hp} {s : Shared} (I : L2.Inv X pins σ H s) : (s.heap.objs.size == sysModules) = false := beq_eq_false_iff_ne.mpr (Ne.symm (Nat.ne_of_lt I.big))
theorem xempty_ok : PE X (.Dict [] [] pos) (tE G W fe xEmpty) := by
  refine ⟨fun pins s σ H Q I h => ?_⟩
  obtain ⟨β, m, ρ, rp, rs, g⟩ := h
  have hn := I.hok.fresh (Nat.le_refl s.heap.objs.size)
  have le := Hle.upd (o := dictO s.heap.objs.size #[] 0) hn
  refine wpAny_Dict_empty ⟨.ref s.heap.objs.size, _, dictO_laid I, rfl, ?_⟩
  have nd : ∀ f, (s.heap.objs.size, f) ∉ β := fun f => rp.fresh hn f
  refine g _ (β ++ [(s.heap.objs.size, false)]) _ (Ext.alloc hn) ((rp.le le).joinD nd (big_ne I) upd_same) ?_
  simp only [RV]
  exact ⟨_, false, rfl, by rw [← rp.len]; simp⟩
/-- pairs of values -/
def RKV (G : Gx) (H : Hp) (β : List Pl) : List (V × V) → List (D × D) → Prop := Paired fun p q => RV G H β p.1 q.1 ∧ RV G H β p.2 q.2
theorem RKV.mono {H H' : Hp} {β β' : List Pl} {ps : List (V × V)} {qs : List (D × D)} (t : TL G.K H H') (b : BL β β') (h : RKV G H β ps qs) : RKV G H' β' ps qs := Paired.mapP h fun _ _ z => ⟨RV.mono t b _ _ z.1, RV.mono t b _ _ z.2⟩
theorem kv_red {σ : L2.St} {Q : List (V × V) → Hp → Prop} : ∀ (l : List (Den × Den)) {H : Hp} {β : List Pl} {m : Mem} {ρ : Env}, Rp G H β m → RS G H β σ ρ → GoodO G (fun c d H' => W c d σ H') H β (fun qs m' H' β' => ∀ ps, RKV G H' β' ps qs → Q ps H') (kvD l fe ρ m) →
    tPairs (l.map fun p => (tE G W fe p.1, tE G W fe p.2)) σ H Q
  | [], H, β, m, ρ, rp, rs, g => g β H Ext.refl rp [] .nil
  | (a, b) :: r, H, β, m, ρ, rp, rs, g => by
    simp only [kvD] at g
    refine ⟨β, m, ρ, rp, rs, (GoodO.mono (GoodO.bind g) fun x m1 H1 β1 e1 rp1 g1 u ru => ?_).e⟩
    refine ⟨β1, m1, ρ, rp1, rs.ext rp e1, (GoodO.mono (GoodO.bind g1) fun y m2 H2 β2 e2 rp2 g2 w rw' => ?_).e⟩
    refine kv_red r rp2 ((rs.ext rp e1).ext rp1 e2) (Q := fun ps H3 => Q ((u, w) :: ps) H3) (GoodO.mono (GoodO.bind g2) fun qs m3 H3 β3 e3 rp3 g3 ps rps => ?_)
    exact g3 β3 H3 Ext.refl rp3 _ (.cons ⟨RV.mono (e3.tl rp2) e3.bl _ _ (RV.mono (e2.tl rp1) e2.bl _ _ ru), RV.mono (e3.tl rp2) e3.bl _ _ rw'⟩ rps)
theorem store_all (on : On G X) (hu : X.A.units + 64 < cLine) {pins : List (Addr × Obj)} {σ : L2.St} {a : Addr} {l : Nat} {E : Value → Shared → Prop} {R : Unit → Shared → Prop} (hs : (a == sysModules) = false) : ∀ (ps : List (V × V)) (qs : List (D × D)) (ws : List (Value × Value)) (acc kvs : List (D × D)) (H : Hp) (β : List Pl) (m : Mem) (s : Shared),
    L2.Inv X pins σ H s → Rp G H β m → β[l]? = some (a, false) → m[l]? = some (.dict acc false) → RKV G H β ps qs → VV ps ws → dictP acc qs = some kvs →
    (∀ H' s', L2.Inv X pins σ H' s' → Ext β H H' β → Rp G H' β (m.set l (.dict kvs false)) → R () s') → wpAny (model X.prog X.w) X.A (storeAll a ws) (fun _ s' => R () s') E s
  | [], qs, ws, acc, kvs, H, β, m, s, I, rp, ha, hm, rk, rv, hd, hR => by
    cases rk
    cases rv
    simp only [dictP, Option.some.injEq] at hd
    subst hd
    unfold storeAll
    rw [List.forIn_nil]
    refine wpAny_pure (hR H s I Ext.refl ?_)
    rw [show m.set l (.dict acc false) = m from ?_]
    · exact rp
    · apply List.ext_getElem?
      intro i
      by_cases hi : l = i
      · subst hi; rw [List.getElem?_set_self (List.getElem?_eq_some_iff.mp hm).1, hm]
      · rw [List.getElem?_set_ne hi]
  | p :: ps, qs, ws, acc, kvs, H, β, m, s, I, rp, ha, hm, rk, rv, hd, hR => by
    cases rk with
    | @cons _ q _ qs rq rk =>
    cases rv with
    | @cons _ w _ ws rw' rv =>
    obtain ⟨k, v⟩ := q
    simp only [dictP] at hd
    split at hd
    · rename_i c
      obtain ⟨a', es, ep, e0, ha', _, hl, h1, h2⟩ := rp.dict hm (v := .ref a) (by simp only [RV]; exact ⟨a, false, rfl, ha⟩)
      cases e0
      unfold storeAll
      rw [List.forIn_cons]
      refine wpAny_bind (wpAny_bind (dset_ok on hu I rp ha hs hl c.2 h1 h2 c.1 rq.1 rw'.1 rq.2 rw'.2 fun es' ep' s' I' rp' => wpAny_pure ?_))
      have xw := Ext.write (H := H) (ob := dictO a es' ep') ha
      have hm' : (m.set l (.dict (dPut acc k v) false))[l]? = some (.dict (dPut acc k v) false) := List.getElem?_set_self (List.getElem?_eq_some_iff.mp hm).1
      refine store_all on hu hs ps qs ws _ kvs _ β _ s' I' rp' ha hm' (RKV.mono (xw.tl rp) (BL.refl _) rk) rv hd fun H' s2 I2 x2 rp2 => hR H' s2 I2 (xw.trans x2) ?_
      rw [List.set_set] at rp2
      exact rp2
    · cases hd
theorem xdict_ok (on : On G X) (hu : X.A.units + 64 < cLine) (h : PPs X pos keys values (l.map fun p => (tE G W fe p.1, tE G W fe p.2))) (hall : keys.all (·.isSome) = true) (hl : keys.length = values.length) (h0 : keys ≠ []) (h15 : keys.length ≤ 15) :
    PE X (.Dict keys values pos) (tE G W fe (xDict l)) := by
  refine ⟨fun pins s σ H Q I q => ?_⟩
  obtain ⟨β, m, ρ, rp, rs, g⟩ := q
  have hn := I.hok.fresh (Nat.le_refl s.heap.objs.size)
  have le := Hle.upd (o := dictO s.heap.objs.size #[] 0) hn
  have I1 := dictO_laid I
  have hs := big_ne I
  have nd : ∀ f, (s.heap.objs.size, f) ∉ β := fun f => rp.fresh hn f
  have hk : GoodO G (fun c d H' => W c d σ H') (upd H s.heap.objs.size (dictO s.heap.objs.size #[] 0)) β (fun qs m2 H2 β2 => kvD l fe ρ m = .ok qs m2 ∧ Ext β (upd H s.heap.objs.size (dictO s.heap.objs.size #[] 0)) H2 β2 ∧ Rp G H2 β2 m2) (kvD l fe ρ m) := by
    unfold xDict at g
    cases ek : kvD l fe ρ m with
    | ok qs m2 => exact fun β2 H2 x r => ⟨rfl, x, r⟩
    | exc c p m2 => rw [ek] at g; exact PostX.ext g (Ext.le le)
    | bad => rw [ek] at g; exact g
  have red := kv_red (Q := fun ps H2 => ∃ β2 m2 qs, kvD l fe ρ m = .ok qs m2 ∧ Ext β (upd H s.heap.objs.size (dictO s.heap.objs.size #[] 0)) H2 β2 ∧ Rp G H2 β2 m2 ∧ RKV G H2 β2 ps qs) l (rp.le le) (rs.ext rp (Ext.le le))
    (GoodO.mono hk fun qs m2 H2 β2 e2 rp2 g2 ps rps => ⟨β2, m2, qs, g2.1, g2.2.1, rp2, rps⟩)
  refine wpAny_Dict_any hall hl h0 h15 (thn (h.run pins _ σ _ _ I1 red) fun ws s2 ⟨ps, H2, I2, rel, β2, m2, qs, ek, x2, rp2, rk⟩ => ?_)
  have hA : H2 s.heap.objs.size = some (dictO s.heap.objs.size #[] 0) := x2.fr _ _ upd_same (nd false)
  have nd2 := nd_next nd upd_same x2
  unfold xDict at g
  rw [ek] at g
  simp only [Out.bind_ok] at g
  cases hd : dictP [] qs with
  | none => rw [hd] at g; exact False.elim g
  | some kvs =>
    rw [hd] at g
    have rj := rp2.joinD nd2 hs hA
    have hb : (β2 ++ [(s.heap.objs.size, false)])[m2.length]? = some (s.heap.objs.size, false) := by rw [← rp2.len]; simp
    refine store_all (R := fun _ s' => EP X pins σ Q (.ref s.heap.objs.size) s') on hu hs ps qs ws [] kvs H2 (β2 ++ [(s.heap.objs.size, false)]) (m2 ++ [.dict [] false]) s2 I2 rj hb (by simp) (RKV.mono (TL.refl _ _) ⟨_, rfl⟩ rk) rel hd fun H' s' I' x' rp' => ?_
    refine ⟨.ref s.heap.objs.size, H', I', rfl, ?_⟩
    rw [List.set_append_right _ _ (Nat.le_refl _), Nat.sub_self, List.set_cons_zero] at rp'
    refine g _ (β2 ++ [(s.heap.objs.size, false)]) H' ⟨x2.bl.trans ⟨_, rfl⟩, fun b o e n => ?_, fun b f hbf => ?_⟩ rp' ?_
    · have e1 : upd H s.heap.objs.size (dictO s.heap.objs.size #[] 0) b = some o := le _ _ e
      refine x'.fr b o (x2.fr b o e1 n) fun z => ?_
      rcases List.mem_append.mp z with z | z
      · rcases x2.nw b false z with z | z | z
        · exact n z
        · exact n z
        · rw [e1] at z; cases z
      · simp only [List.mem_singleton] at z
        cases z
        rw [hn] at e; cases e
    · rcases List.mem_append.mp hbf with z | z
      · rcases x2.nw b f z with z | z | z
        · exact .inl z
        · exact .inr (.inl z)
        · refine .inr (.inr ?_)
          cases q : H b with
          | none => rfl
          | some o => rw [le _ _ q] at z; cases z
      · simp only [List.mem_singleton] at z
        cases z; exact .inr (.inr hn)
    · simp only [RV]
      exact ⟨_, false, rfl, hb⟩
end
end Mn
set_option Elab.async false
set_option linter.all false
set_option maxRecDepth 100000
set_option maxHeartbeats 1000000
/-! Mn16: isinstance, calls, raise, try. -/
namespace Mn
open PySem L2 PySem.Spec PyProof.Rows
/-! ### isinstance -/
def tyN (m : Mem) : D → Option String
  | .non => some "NoneType"
  | .bl _ => some "bool"
  | .int _ => some "int"
  | .str _ => some "str"
  | .tup _ => some "tuple"
  | .seq _ => some "list"
  | .loc l => match m[l]? with
    | some (.lst _) => some "list"
    | _ => none
  | .fn _ => none
def isT (t T : String) : Bool := t == T || (t == "bool" && T == "int")
abbrev tys : List String := ["NoneType", "bool", "int", "str", "tuple", "list"]
theorem kit_all : tys.all (fun t => tys.tail.all fun T => decide (kitB t T = some (isT t T))) = true := by decide +kernel
theorem kit_at {t T : String} (h : t ∈ tys) (h' : T ∈ tys.tail) : kitB t T = some (isT t T) := by
  have h1 := List.all_eq_true.mp kit_all t h
  exact of_decide_eq_true (List.all_eq_true.mp h1 T h')
def xIsi (Ts : List String) (a : Den) : Den := fun fe ρ m => (a fe ρ m).bind fun x m1 => match tyN m1 x with
  | some t => .ok (.bl (Ts.any (isT t))) m1
  | none => .bad
section
variable {G : Gx} {X : Cx} {W : WX} {fe : FE} {e : Expr} {d : Den} {pos p q q2 tp : Pos}
theorem tyN_x {H : Hp} {β : List Pl} {m : Mem} {x : D} {v : V} {t : String} (on : On G X) (rp : Rp G H β m) (r : RV G H β v x) (h : tyN m x = some t) : TyX X.K H v (.type t) ∧ t ∈ tys := by
  cases x with
  | non => simp only [RV] at r; subst r; simp only [tyN, Option.some.injEq] at h; subst h; exact ⟨.base .non, by simp [tys]⟩
  | bl b => simp only [RV] at r; subst r; simp only [tyN, Option.some.injEq] at h; subst h; exact ⟨.base (.bl b), by simp [tys]⟩
  | int b => simp only [RV] at r; subst r; simp only [tyN, Option.some.injEq] at h; subst h; exact ⟨.base (.int b), by simp [tys]⟩
  | str b => simp only [RV] at r; subst r; simp only [tyN, Option.some.injEq] at h; subst h; exact ⟨.base (.str b), by simp [tys]⟩
  | tup ds =>
    simp only [RV] at r
    obtain ⟨a, xs, rfl, h1, _⟩ := r
    simp only [tyN, Option.some.injEq] at h; subst h
    rcases h1 with ⟨o, h1, _⟩ | ⟨o, its, n, h1, h2, _⟩
    · exact ⟨.fTuple h1, by simp [tys]⟩
    · exact ⟨.kTuple (on.K ▸ h1) h2, by simp [tys]⟩
  | seq ds =>
    simp only [RV] at r
    obtain ⟨a, xs, rfl, h1, _⟩ := r
    simp only [tyN, Option.some.injEq] at h; subst h
    rcases h1 with ⟨o, h1⟩ | ⟨o, its, n, h1, h2, _⟩
    · exact ⟨.base (.frz h1), by simp [tys]⟩
    · exact ⟨.kList (on.K ▸ h1) h2, by simp [tys]⟩
  | loc l =>
    simp only [tyN] at h
    split at h
    · rename_i xs e
      simp only [Option.some.injEq] at h; subst h
      obtain ⟨a, zs, rfl, _, h1, _⟩ := rp.lst e r
      exact ⟨.base (.lst h1), by simp [tys]⟩
    · cases h
  | fn n => simp [tyN] at h
theorem xisi1_ok {T : String} {x : Str} (on : On G X) (hT : T ∈ tys.tail) (he : PE X e (tE G W fe d)) (hg : Gl X "isinstance") (hm : X.mg "isinstance" = none) (hv : bootBuiltins "isinstance" = some (.builtin "isinstance")) (hn : ("isinstance" : Str) ≠ "__name__") (hdb : (("isinstance" : Str) == ("__debug__" : Str)) = false)
    (hgT : Gl X x) (hmT : X.mg x = none) (hvT : bootBuiltins x = some (.type T)) (hnT : x ≠ "__name__") (hdT : (x == ("__debug__" : Str)) = false)
    (hs : starEach [e, .Name x q] X.env = (false, eval e X.env) :: starEach [.Name x q] X.env) (hs2 : starEach [.Name x q] X.env = (false, eval (.Name x q) X.env) :: starEach [] X.env) (hpl : (backTo pos (starEach [.Name x q] X.env)).any (·.1) = false) :
    PE X (.Call (.Name "isinstance" p) [e, .Name x q] [] pos) (tE G W fe (xIsi [T] d)) :=
  PE.imp (pe_callB call_isi hg hm hv (pa_cons he (pa_cons (pe_bltn hgT hmT hvT (show L2.RelV (.ty T) (.type T) from rfl) hnT hdT) pa_nil hs2) hs) hn hdb hs hpl) fun σ H Q h => by
    obtain ⟨β, m, ρ, rp, rs, g⟩ := h
    refine ⟨β, m, ρ, rp, rs, (GoodO.mono (GoodO.bind (GoodE.iff.mp g)) fun x m1 H1 β1 e1 rp1 g1 u ru => ?_).e⟩
    cases ht : tyN m1 x with
    | none => rw [ht] at g1; exact False.elim g1
    | some t =>
      rw [ht] at g1
      obtain ⟨ty, hmem⟩ := tyN_x on rp1 ru ht
      refine ⟨u, .ty T, .type t, .type T, _, rfl, .ty T, ty, kit_ty (kit_at hmem hT), ?_⟩
      have := Post.bl (GoodE.iff.mpr g1) rp1
      simpa using this
theorem xisi2_ok {T T2 : String} {x x2 : Str} {k : Nat} (on : On G X) (hT : T ∈ tys.tail) (hT2 : T2 ∈ tys.tail) (he : PE X e (tE G W fe d)) (hg : Gl X "isinstance") (hm : X.mg "isinstance" = none) (hv : bootBuiltins "isinstance" = some (.builtin "isinstance")) (hn : ("isinstance" : Str) ≠ "__name__") (hdb : (("isinstance" : Str) == ("__debug__" : Str)) = false)
    (hgT : Gl X x) (hmT : X.mg x = none) (hvT : bootBuiltins x = some (.type T)) (hnT : x ≠ "__name__") (hdT : (x == ("__debug__" : Str)) = false)
    (hgT2 : Gl X x2) (hmT2 : X.mg x2 = none) (hvT2 : bootBuiltins x2 = some (.type T2)) (hnT2 : x2 ≠ "__name__") (hdT2 : (x2 == ("__debug__" : Str)) = false)
    (hst : starEach [.Name x q, .Name x2 q2] X.env = (false, eval (.Name x q) X.env) :: starEach [.Name x2 q2] X.env) (hst2 : starEach [.Name x2 q2] X.env = (false, eval (.Name x2 q2) X.env) :: starEach [] X.env)
    (hs : starEach [e, .Tuple [.Name x q, .Name x2 q2] k tp] X.env = (false, eval e X.env) :: starEach [.Tuple [.Name x q, .Name x2 q2] k tp] X.env) (hs2 : starEach [.Tuple [.Name x q, .Name x2 q2] k tp] X.env = (false, eval (.Tuple [.Name x q, .Name x2 q2] k tp) X.env) :: starEach [] X.env) (hpl : (backTo pos (starEach [.Tuple [.Name x q, .Name x2 q2] k tp] X.env)).any (·.1) = false) :
    PE X (.Call (.Name "isinstance" p) [e, .Tuple [.Name x q, .Name x2 q2] k tp] [] pos) (tE G W fe (xIsi [T, T2] d)) :=
  PE.imp (pe_callB call_isiT hg hm hv (pa_cons he (pa_cons (pe_tup (pa_cons (pe_bltn hgT hmT hvT (show L2.RelV (.ty T) (.type T) from rfl) hnT hdT) (pa_cons (pe_bltn hgT2 hmT2 hvT2 (show L2.RelV (.ty T2) (.type T2) from rfl) hnT2 hdT2) pa_nil hst2) hst)) pa_nil hs2) hs) hn hdb hs hpl) fun σ H Q h => by
    obtain ⟨β, m, ρ, rp, rs, g⟩ := h
    refine ⟨β, m, ρ, rp, rs, (GoodO.mono (GoodO.bind (GoodE.iff.mp g)) fun x m1 H1 β1 e1 rp1 g1 u ru => ?_).e⟩
    cases ht : tyN m1 x with
    | none => rw [ht] at g1; exact False.elim g1
    | some t =>
      rw [ht] at g1
      obtain ⟨ty, hmem⟩ := tyN_x on rp1 ru ht
      refine ⟨by rw [sizeLine_eq]; show 2 ≤ 16777216; omega, fun a ha => ?_⟩
      have le := Hle.upd (o := .tup [.ty T, .ty T2]) ha
      have ty' : TyX X.K (upd H1 a (.tup [.ty T, .ty T2])) u (.type t) := (tyN_x on (rp1.le le) (RV.mono le.tl (BL.refl _) _ _ ru) ht).1
      refine ⟨u, a, [.ty T, .ty T2], .type t, [.type T, .type T2], ([T, T2].any (isT t)), rfl, upd_same, .cons (.ty T) (.cons (.ty T2) .nil), ty', ?_, ?_⟩
      · refine kitAny_cons (kit_ty (kit_at hmem hT)) (fun hb => kitAny_cons (kit_ty (kit_at hmem hT2)) (fun hb2 => ?_) fun hb2 => ?_) fun hb => ?_
        · simp [hb, hb2, PySem.W.kitAny]
        · simp [hb2]
        · simp [hb]
      · exact g1 β1 _ (Ext.le le) (rp1.le le) _ (by simp [RV])
end
/-! ### calls -/
/-- the promise of a def that does d -/
def spF (G : Gx) (d : List D → Mem → Out D) : Sp := fun vs H Q E => ∃ β m ds, Rp G H β m ∧ RVs G H β vs ds ∧ GoodE G E H β Q (d ds m)
/-- what is known of the defs that may be called here -/
def Fns (G : Gx) (P : Program) (w : World) (K : PySem.W.Frag) (mg : Str → Option Value) (base : Heap) (k : Nat) (fe : FE) : Prop :=
  ∀ j f, G.fa j = some f → ∃ fd ps, FnOk P w K mg base (L2.CX P w) k f fd ps (spF G (fe j)) ∧ PySem.W.keepIn K (.ref f) = true ∧ Binds K fd ps []
def xCall (j : Nat) (a : DenA) : Den := fun fe ρ m => (a fe ρ m).bind fun ds m1 => fe j ds m1
/-- i's value is a def -/
def xCallV (i : Nat) (a : DenA) : Den := fun fe ρ m => match ρ[i]? with
  | some (some (.fn j)) => (a fe ρ m).bind fun ds m1 => fe j ds m1
  | _ => .bad
section
variable {G : Gx} {X : Cx} {W : WX} {fe : FE} {e : Expr} {es : List Expr} {dA : DenA} {x : Str} {p pos : Pos} {j k i : Nat} {f : Addr}
theorem call_red {σ : L2.St} {H : Hp} {Q : VK} {β : List Pl} {m : Mem} {ρ : Env} (rp : Rp G H β m) (rs : RS G H β σ ρ) (g : GoodE G (fun c d H' => W c d σ H') H β Q ((dA fe ρ m).bind fun ds m1 => fe j ds m1)) : tA G W fe dA σ H fun vs H1 => spF G (fe j) vs H1 Q (WE W σ) :=
  ⟨β, m, ρ, rp, rs, GoodO.mono (GoodO.bind (GoodE.iff.mp g)) fun ds m1 H1 β1 e1 rp1 g1 vs rvs => ⟨β1, m1, ds, rp1, rvs, GoodE.iff.mpr g1⟩⟩
theorem xcall_ok (F : Fns G X.prog X.w X.K X.mg X.base k fe) (tk : Takes X W) (hr : Room k X.A) (hj : G.fa j = some f) (hg : Gl X x) (hm : X.mg x = some (.ref f)) (ha : PA X (e :: es) (tA G W fe dA))
    (hdb : (x == ("__debug__" : Str)) = false) (he : starEach (e :: es) X.env = (false, eval e X.env) :: starEach es X.env) (hpl : (backTo pos (starEach es X.env)).any (·.1) = false) : PE X (.Call (.Name x p) (e :: es) [] pos) (tE G W fe (xCall j dA)) := by
  obtain ⟨fd, ps, F1, hk, hb⟩ := F j f hj
  refine PE.imp (pe_callSD (E := WE W) F1 hr hg hm hk hb .nil (passAt tk) ha hdb he hpl) fun σ H Q h => ?_
  obtain ⟨β, m, ρ, rp, rs, g⟩ := h
  show tA G W fe dA σ H fun vs H1 => spF G (fe j) (vs ++ []) H1 Q (WE W σ)
  simp only [List.append_nil]
  exact call_red rp rs g
theorem xcall0_ok (F : Fns G X.prog X.w X.K X.mg X.base k fe) (tk : Takes X W) (hr : Room k X.A) (hj : G.fa j = some f) (hg : Gl X x) (hm : X.mg x = some (.ref f)) (hdb : (x == ("__debug__" : Str)) = false) : PE X (.Call (.Name x p) [] [] pos) (tE G W fe (xCall j aNil)) := by
  obtain ⟨fd, ps, F1, hk, hb⟩ := F j f hj
  refine ⟨fun pins s σ H Q I h => ?_⟩
  obtain ⟨β, m, ρ, rp, rs, g⟩ := h
  refine wpAny_Call_Name_kw (ld_glob I hg hm ?_ hdb)
  refine PySem.W.callWith_K0 I.kIn hk (run_fnSD (us := []) (vs := []) (E := WE W) F1 hr hb .nil (passAt tk σ) I .nil ?_)
  exact ⟨β, m, [], rp, RVs.nil, g⟩
theorem xcallV_ok (F : Fns G X.prog X.w X.K X.mg X.base k fe) (tk : Takes X W) (hr : Room k X.A) (hN : X.N[i]? = some x) (hv : Vis X.env.scope x) (ha : PA X (e :: es) (tA G W fe dA))
    (hdb : (x == ("__debug__" : Str)) = false) (hcd : (x == ("__classdict__" : Str)) = false) (he : starEach (e :: es) X.env = (false, eval e X.env) :: starEach es X.env) (hpl : (backTo pos (starEach es X.env)).any (·.1) = false) : PE X (.Call (.Name x p) (e :: es) [] pos) (tE G W fe (xCallV i dA)) := by
  refine ⟨fun pins s σ H Q I h => ?_⟩
  obtain ⟨β, m, ρ, rp, rs, g⟩ := h
  unfold xCallV at g
  split at g
  · rename_i j hj
    obtain ⟨v, hs, rv⟩ := rs.at_ i _ hj
    simp only [RV] at rv
    obtain ⟨f, rfl, hf⟩ := rv
    obtain ⟨fd, ps, F1, hk, hb⟩ := F j f hf
    refine wpAny_Call_Name_kw (thn ((pe_var (pos := p) hN hv hdb hcd).run pins s σ H (fun v H1 => v = .ref f ∧ H1 = H) I ⟨.ref f, hs, rfl, rfl⟩) fun u s1 ⟨v, H1, I1, r1, q1⟩ => ?_)
    obtain ⟨rfl, rfl⟩ := q1
    cases r1
    refine PySem.W.callWith_K (h₀ := X.base) I.ok.mod.kin hk (thn (ha.run pos pins s1 σ _ _ I1 (call_red rp rs g)) fun us s2 ⟨vs, H2, I2, r, q⟩ => ⟨I2.kIn, ?_⟩) he hpl
    exact run_fnSD (E := WE W) F1 hr hb .nil (passAt tk σ) I2 r (by rw [List.append_nil]; exact q)
  · exact g.elim
/-- a def's call: the parameters' slots first -/
def bodyD (np nN : Nat) (den : DenS) (fe : FE) (ds : List D) (m : Mem) : Out D := if ds.length = np then (match den fe (ds.map some ++ List.replicate (nN - np) none) m with
      | .ret v m' => .ok v m'
      | .next _ m' => .ok .non m'
      | .exc c p _ m' => .exc c p m'
      | _ => .bad) else .bad
/-- a def's body does what it does -/
theorem body_ok {N ps : List Str} {q : Str} {st : Stmt} {fd : FuncData} {P : Program} {w : World} {K : PySem.W.Frag} {mg : Str → Option Value} {base : Heap} {fe : FE} {den : DenS} (F : Fun K x q st f fd) (S : FnScope N ps (defScope st))
    (hb : ∀ (cdv : Value) (A : Around) (outer : List PySem.Env) (s : Shared) (H : Hp) (E : XK), Room k (A.deeper (envOfC q (defScope st) s.heap.objs.size f cdv)) → PSs (cxOf (L2.CX P w) P w K mg base N q (defScope st) f cdv A outer s H E) (defBody st) (tS G (fun c d _ H => E c d H) fe den)) :
    FnOk P w K mg base (L2.CX P w) (k + 1) f fd ps (spF G (bodyD ps.length N.length den fe)) := by
  refine F.okX S (fun vs H Q E h => ?_) fun cdv A outer s H vs Q E hr h => ⟨_, hb cdv A outer s H E hr, ?_⟩
  · obtain ⟨β, m, ds, rp, rv, g⟩ := h
    unfold bodyD at g
    split at g
    · rename_i c; rw [rv.length]; exact c
    · exact g.elim
  · obtain ⟨β, m, ds, rp, rv, g⟩ := h
    unfold bodyD at g
    split at g
    · rename_i c
      refine ⟨β, m, ds.map some ++ List.replicate (N.length - ps.length) none, rp, ⟨?_, fun i d hi => ?_⟩, ?_⟩
      · simp only [L2.start, List.length_append, List.length_map, List.length_replicate, rv.length, c]
      · have hlt : i < ds.length := by
          rcases Nat.lt_or_ge i ds.length with h | h
          · exact h
          · rw [List.getElem?_append_right (by simpa using h)] at hi
            rw [List.getElem?_replicate] at hi
            split at hi
            · simp at hi
            · cases hi
        rw [List.getElem?_append_left (by simpa using hlt), List.getElem?_map] at hi
        obtain ⟨d', hd', e⟩ := Option.map_eq_some_iff.mp hi
        cases e
        obtain ⟨v, hv, r⟩ := rv.get hd'
        refine ⟨v, ?_, r⟩
        unfold L2.start
        rw [List.getElem?_append_left (by simpa [rv.length] using hlt), List.getElem?_map, hv]; rfl
      · generalize den fe (ds.map some ++ List.replicate (N.length - ps.length) none) m = r at g
        cases r with
        | ret v m' => exact fun u β' H' x r q => g u β' H' x r q
        | next ρ m' => exact fun σ' β' H' x r q => g .non β' H' x r (by simp [RV])
        | exc c p ρ m' => exact fun cls dd σ' β' H' x r q z => g cls dd β' H' x r z
        | brk ρ m' => exact g.elim
        | cont ρ m' => exact g.elim
        | bad => exact g.elim
    · exact g.elim
end
end Mn
set_option Elab.async false
set_option linter.all false
set_option maxRecDepth 100000
set_option maxHeartbeats 1000000
/-! Mn17: raise, try. -/
namespace Mn
open PySem L2 PySem.Spec PyProof.Rows
/-! ### raise -/
def sRaise0 (c : Nat) : DenS := fun _ ρ m => .exc c none ρ m
def sRaise1 (c : Nat) (a : DenA) : DenS := fun fe ρ m => .ofE (a fe ρ m) ρ fun vs m1 => match vs with
  | [v] => .exc c (some v) ρ m1
  | _ => .bad
section
variable {X : Cx} {pos : Pos}
/-- X(), X an own exception class without own __init__ -/
theorem pmk_own0 {C : Addr} {bmB : List Value} {B newId initId : String} {x : Str} {p : Pos} (F : ExcBaseFacts B newId initId bmB) (q : PySem.W.excIn X.K C bmB newId = true) (gC : X.mg x = some (.ref C))
    (kC : PySem.W.keepIn X.K (.ref C) = true) (r : Raises X (.ref C)) (hg : Gl X x) (hdb : (x == ("__debug__" : Str)) = false) :
    PMk X (.Call (.Name x p) [] [] pos) (fun σ H Q => Q (.ref C) none H) := by
  intro pins s σ H Q I h
  refine wpAny_Call_Name_kw (ld_glob I hg gC ?_ hdb)
  refine PySem.W.callWith_K0 I.kIn kC ?_
  show wpAny _ _ (call (.ref C) []) _ _ _
  obtain ⟨bm, N, nm, qn, bs, hdct, sn, sub, ab, col, dd, k0, k1, k2, k3, k5, mN, hC, hN, hni, T⟩ := exc_obj I.kIn q
  refine wpAny_call_exc_subT F T hC hN hni (fun h' e hm => ?_) (Nat.zero_le _)
  exact mk_of I hm r h (I.hok.gone hm.new)
/-- what __init__(self, word): self.word = word does -/
def spInit (K : PySem.W.Frag) (fld : Str) : Sp := fun vs H Q _ => ∃ (a C : Addr) (v : V), vs = [.ref a, v] ∧ OexC K C ∧ PySem.W.findIn K (.ref C) fld = some none ∧ H a = some (exo a C none) ∧
  ∀ dx, H dx = none → dx ≠ a → Q .non (upd (upd H dx (exd dx [(fld, v)])) a (exo a C (some dx)))
variable {G : Gx} {W : WX} {fe : FE} {e : Expr} {dA : DenA} {x : Str} {p pos2 : Pos} {c k : Nat} {C fI : Addr} {fd : FuncData}
theorem sraise0_ok {bmB : List Value} {B newId initId : String} (hc : X.calm = true) (tk : Takes X W) (F : ExcBaseFacts B newId initId bmB) (q : PySem.W.excIn X.K C bmB newId = true) (gC : X.mg x = some (.ref C))
    (kC : PySem.W.keepIn X.K (.ref C) = true) (r : Raises X (.ref C)) (hg : Gl X x) (hdb : (x == ("__debug__" : Str)) = false) (hca : G.ca c = some C) :
    PS X (.Raise (some (.Call (.Name x p) [] [] pos)) none pos2) (tS G W fe (sRaise0 c)) := PS.imp (ps_raise hc tk (pmk_own0 F q gC kC r hg hdb)) fun D σ H h => by
  obtain ⟨β, m, ρ, rp, rs, g⟩ := h
  exact g _ _ σ β H Ext.refl rp rs ⟨C, rfl, hca, rfl⟩
theorem sraise1_ok (hc : X.calm = true) (tk : Takes X W) (T : OexC X.K C) (iC : PySem.W.findIn X.K (.ref C) "__init__" = some (some (.ref fI))) (tI : PySem.W.typeIn X.K (.ref fI) = some (.type "function"))
    (F1 : FnOk X.prog X.w X.K X.mg X.base (L2.CX X.prog X.w) k fI fd ["self", "word"] (spInit X.K (G.xf c))) (hr : Room (k + 1) X.A) (hb : Binds X.K fd ["self", "word"] []) (hno : PySem.W.findIn X.K (.ref C) (G.xf c) = some none) (hg : Gl X x) (hm : X.mg x = some (.ref C)) (ha : PA X [e] (tA G W fe dA)) (hca : G.ca c = some C)
    (hdb : (x == ("__debug__" : Str)) = false) (he : starEach [e] X.env = (false, eval e X.env) :: starEach [] X.env) (hpl : (backTo pos (starEach [] X.env)).any (·.1) = false) :
    PS X (.Raise (some (.Call (.Name x p) [e] [] pos)) none pos2) (tS G W fe (sRaise1 c dA)) := PS.imp (ps_raise hc tk (pmk_oex T iC tI F1 hr hb .nil passL hg hm ha hdb he hpl)) fun D σ H h => by
  obtain ⟨β, m, ρ, rp, rs, g⟩ := h
  refine ⟨β, m, ρ, rp, rs, GoodO.mono (GoodS.ofE rp rs g) fun vs m1 H1 β1 x rp1 g1 us rvs => ?_⟩
  obtain ⟨rs1, g1⟩ := g1
  split at g1
  · rename_i v
    obtain ⟨u, rfl, ru⟩ := rvs.split1
    refine ⟨by show 1 ≤ 1000; decide, fun a ha => ⟨a, C, u, rfl, T, hno, upd_same, fun dx hdx ne => ?_⟩⟩
    have hdx' : H1 dx = none := by rw [upd_ne ne] at hdx; exact hdx
    refine ⟨rfl, dx, [(G.xf c, u)], upd_same, by rw [upd_ne ne]; exact upd_same, hdx', ?_⟩
    have le : Hle H1 (upd (L2.del (upd (upd (upd H1 a (exo a C none)) dx (exd dx [(G.xf c, u)])) a (exo a C (some dx))) a) dx (.xd [(G.xf c, u)])) := fun b o e => by
      have nb : b ≠ a := ne_of_none e ha
      have nd : b ≠ dx := ne_of_none e hdx'
      rw [upd_ne nd, del_ne nb, upd_ne nb, upd_ne nd, upd_ne nb]
      exact e
    exact g1 _ _ σ β1 _ (Ext.le le) (rp1.le le) (rs1.ext rp1 (Ext.le le)) ⟨C, rfl, hca, dx, u, rfl, upd_same, RV.mono le.tl (BL.refl _) _ _ ru⟩
  · exact g1.elim
/-- __init__(self, word): self.fld = word -/
theorem init_ok {P : Program} {w : World} {K : PySem.W.Frag} {mg : Str → Option Value} {base : Heap} {x q fld : Str} {st : Stmt} {f : Addr} {fd : FuncData} {q1 q2 q3 q4 : Pos} (F : Fun K x q st f fd) (S : FnScope ["self", "word"] ["self", "word"] (defScope st))
    (hb : defBody st = [.Assign [.Attribute (.Name "self" q1) fld q2] (.Name "word" q3) q4]) : FnOk P w K mg base (L2.CX P w) 1 f fd ["self", "word"] (spInit K fld) := by
  refine F.okX S (fun vs H Q E h => ?_) fun cdv A outer s H vs Q E hr h => ?_
  · obtain ⟨a, C, v, rfl, _⟩ := h
    rfl
  · obtain ⟨a, C, v, rfl, T, hno, he, k⟩ := h
    rw [hb]
    have vis : ∀ y : Str, y ∈ (["self", "word"] : List Str) → Vis (defScope st) y := fun y hy => (S.par y hy).elim .inl fun h => .inr (.inl h)
    refine ⟨_, pss_one (ps_ost (pe_var (i := 0) rfl (vis _ (by simp)) (by decide) (by decide)) (pe_var (i := 1) rfl (vis _ (by simp)) (by decide) (by decide)) rfl), ?_⟩
    exact ⟨v, rfl, .ref a, rfl, a, C, rfl, T, hno, .inl ⟨he, fun dx h1 h2 => k dx h1 h2⟩⟩
end
/-! ### try -/
abbrev Clause := Value × Option Nat × (Addr → Value → Option Addr → TS)
/-- what the clauses wish of an exception of the body, one after the other -/
def wMix (K : PySem.W.Frag) (Wout : WX) (D : Ends) : List Clause → WX
  | [] => Wout
  | (c, none, ts) :: r => fun cls d σ H => ∃ b, PySem.W.exmOne K cls c = some b ∧ (b = true → ∀ a, H a = none → ts a cls d D σ H) ∧ (b = false → wMix K Wout D r cls d σ H)
  | (c, some i, ts) :: r => fun cls d σ H => ∃ b, PySem.W.exmOne K cls c = some b ∧ (b = true → ∀ a, H a = none → ts a cls d { nx := fun σ' H' => D.nx (σ'.set i none) H', rt := D.rt, bk := fun σ' H' => D.bk (σ'.set i none) H', ct := fun σ' H' => D.ct (σ'.set i none) H' } (σ.set i (some (.ref a))) H) ∧ (b = false → wMix K Wout D r cls d σ H)
inductive HdsMix (X : Cx) : List ExceptHandler → List Clause → Prop
  | nil : HdsMix X [] []
  | plain {x : Str} {c : Value} {ts : Addr → Value → Option Addr → TS} {b₀ : Stmt} {suite : List Stmt} {np pos' : Pos} {hds : List ExceptHandler} {l : List Clause} (hc : Names X x c)
      (hsu : ∀ (a : Addr) (oe : Obj) (cls : Value) (d : Option Addr) (pn : List (Addr × Obj)), Zc cls d oe → (∃ vs, oe.data = .fields vs) → PSs (X.suite a ((a, oe) :: pn)) (b₀ :: suite) (ts a cls d)) (r : HdsMix X hds l) :
      HdsMix X (.ExceptHandler (some (.Name x np)) none (b₀ :: suite) pos' :: hds) ((c, none, ts) :: l)
  | as_ {x n : Str} {i : Nat} {c : Value} {ts : Addr → Value → Option Addr → TS} {b₀ : Stmt} {suite : List Stmt} {np pos' : Pos} {hds : List ExceptHandler} {l : List Clause} (hc : Names X x c) (hi : X.N[i]? = some n) (hln : X.env.kindOf n = some .local)
      (hsu : ∀ (a : Addr) (oe : Obj) (cls : Value) (d : Option Addr) (pn : List (Addr × Obj)), Zc cls d oe → (∃ vs, oe.data = .fields vs) → PSs (X.suite a ((a, oe) :: pn)) (b₀ :: suite) (ts a cls d)) (r : HdsMix X hds l) :
      HdsMix X (.ExceptHandler (some (.Name x np)) (some n) (b₀ :: suite) pos' :: hds) ((c, some i, ts) :: l)
section
variable {X : Cx} {body : List Stmt} {h₀ : ExceptHandler} {hds : List ExceptHandler} {l : List Clause} {pos : Pos} {tb : WX → TS} {Wout : WX}
theorem ps_try_mix (hs : X.stack = X.env :: X.outer) (hf : X.env.frame = some X.env.locals) (hN : X.N.Nodup) (tk : Takes X Wout)
    (hb : ∀ (W : WX) (pn : List (Addr × Obj)) (xe : Value → Shared → Prop), Takes (X.tr pn xe) W → PassesOwn (model X.prog X.w) X.A X.env xe → PSs (X.tr pn xe) body (tb W))
    (hh : HdsMix X (h₀ :: hds) l) : PS X (.Try body (h₀ :: hds) [] [] pos) (fun D σ H => tb (wMix X.K Wout D l) D σ H) := by
  refine ⟨fun pins s σ H D I h => ?_⟩
  have ok := I.ok
  have hfr : X.A.frames = some (X.env :: X.outer) := by rw [ok.frames, hs]
  refine wpAny_Try_except ?_
  refine wpAny_mono ((hb (wMix X.K Wout D l) (X.pn ++ pins) (fun e s₁ => wpAny (model X.prog X.w) X.A (noteFrame e X.env) (fun _ s₂ => wpAny (model X.prog X.w) X.A (setFlight e none) (fun _ s₃ =>
    wpAny (model X.prog X.w) X.A (handleBy e X.env (h₀ :: hds)) (SP X pins D) X.xe s₃) X.xe s₂) X.xe s₁) (fun u s' xx => ?_) PassesOwn.looking).run [] s σ H D (I.toTry _) h) (fun f s1 hsp => ?_) (fun e s1 he => he)
  · obtain ⟨a, B, sI, pins', σ', H', cls, d, rfl, J', nb, up, sky, na, os, ag, w⟩ := xx
    have J : L2.Inv X pins σ' H' sI := J'.ofTry ok
    have sky' : Sky B (X.env :: X.outer) a (Zc cls d) X.env.locals s'.heap := by rw [← hs]; exact sky
    show wpAny (model X.prog X.w) X.A (noteFrame (.ref a) X.env) _ _ _
    refine Sky.land Zc.steady hfr hf sky' fun h3 fl3 up3 => ?_
    have J3 : L2.Inv X pins σ' H' { s' with heap := h3 } := J.landed nb fl3.1 (up.trans up3) os ag
    obtain ⟨oe3, vs3, he3, hz3, hd3⟩ := fl3.there
    have notFr : ∀ {h : Heap} {o : Obj} {vs : Array Value}, h.FunFrames B (X.env :: X.outer) → h.get? a = some o → o.data = .fields vs → a ∉ frs (X.env :: X.outer) := fun {h o vs} ff e dd hm => by
      obtain ⟨_, o', e', hnf⟩ := ff.mem hm
      rw [e] at e'; cases e'
      exact hnf _ dd
    have nfr := notFr fl3.2.2.1 he3 hd3
    have nL : a ≠ X.env.locals := fun z => nfr (List.mem_filterMap.mpr ⟨X.env, List.mem_cons_self, by rw [hf, z]⟩)
    have nF : a ∉ X.fs := fun hm => by
      obtain ⟨e, he, q⟩ := List.mem_filterMap.mp hm
      exact nfr (List.mem_filterMap.mpr ⟨e, List.mem_cons_of_mem _ he, q⟩)
    have S3 := J3.suite he3 hd3 na nL nF
    have LT : PySem.W.Looks (model X.prog X.w) h3 (typeOf (.ref a)) cls := fun A Q E s k q => wpAny_typeOf_ref (k _ _ he3) (by rw [hz3.1]; exact q)
    have nameTest : ∀ {x : Str} {c : Value} {np : Pos} {Q : Value → Shared → Prop} {E : Value → Shared → Prop}, Names X x c → Q c { s' with heap := h3 } → wpAny (model X.prog X.w) (X.A.mark (some (.ref a))) (eval (.Name x np) X.env) Q E { s' with heap := h3 } := fun {x c np Q E} hc q => by
      obtain ⟨hg, hdbg, hm | ⟨hm, hv, hnn⟩⟩ := hc
      · exact ld_glob (X := X.suite a ((a, oe3) :: (X.pn ++ pins))) S3 hg hm q hdbg
      · exact ld_blt (X := X.suite a ((a, oe3) :: (X.pn ++ pins))) S3 hg hm hv q hnn hdbg
    have go : ∀ {hds' : List ExceptHandler} {l' : List Clause}, HdsMix X hds' l' → wMix X.K Wout D l' cls d σ' H' →
        wpAny (model X.prog X.w) X.A (handleBy (.ref a) X.env hds') (SP X pins D) X.xe { s' with heap := h3 } := by
      intro hds' l' hk
      induction hk with
      | nil =>
        intro w
        refine wpAny_handleBy_nil ?_
        obtain ⟨k1, k2, k3, oe, vs, T, oT, ts', he, hz, hd, h1, hr⟩ := id fl3
        unfold PySem.passOn
        refine wpAny_bind (wpAny_field he hd h1 ?_)
        rw [if_neg (show ¬ ((Value.ref T == Value.none) = true) from by simp)]
        have fin : wpAny (model X.prog X.w) X.A (setFlight (.ref a) X.env.frame) (fun _ s4 => wpAny (model X.prog X.w) X.A (throw (.ref a) : Sem Flow) (SP X pins D) X.xe s4) X.xe { s' with heap := h3 } := by
          rw [hf]
          refine HandSPX.setFlight_upZ fl3 fun h4 hh4 up4 => wpAny_throw (tk _ _ ?_)
          exact ⟨a, B, sI, pins, σ', H', cls, d, rfl, J, nb, (up.trans up3).trans up4, .inr (.inr (by rw [hs]; exact hh4)), na, os, ag, w⟩
        first
          | exact wpAny_bind (wpAny_pure (wpAny_bind fin))
          | exact wpAny_bind fin
      | @plain x c ts b₀ suite np pos' hds2 l2 hc hsu r ih =>
        intro w
        obtain ⟨b, hb1, hyes, hno⟩ := w
        refine wpAny_handleBy_cons (codeAny_handlers_test ?_) (by intro q; cases q)
        have LM := PySem.W.exm_one (M := model X.prog X.w) (J3.kIn) LT hb1
        refine nameTest hc (LM.here ?_)
        cases b with
        | true =>
          refine codeAny_handlers_suite ?_
          refine HandSPX.lands_againZ fl3 fun h4 fl4 up4 => ?_
          have J4 : L2.Inv X pins σ' H' { s' with heap := h4 } := J.landed nb fl4.1 ((up.trans up3).trans up4) os ag
          obtain ⟨oe4, vs4, he4, hz4, hd4⟩ := fl4.there
          have S4 := J4.suite he4 hd4 na nL nF
          refine wpAny_mono ((hsu a oe4 cls d (X.pn ++ pins) hz4 ⟨_, hd4⟩).run [] _ _ H' _ S4 (hyes rfl a na)) (fun f s6 hsp => ?_) (fun _ _ z => False.elim z)
          cases f with
          | next =>
            obtain ⟨σ6, H6, S6, q6⟩ := hsp
            exact ⟨_, _, S6.unsuite ok, q6⟩
          | brk =>
            obtain ⟨σ6, H6, S6, q6⟩ := hsp
            exact ⟨_, _, S6.unsuite ok, q6⟩
          | cont =>
            obtain ⟨σ6, H6, S6, q6⟩ := hsp
            exact ⟨_, _, S6.unsuite ok, q6⟩
          | ret u =>
            obtain ⟨v6, σ6, H6, S6, r6, q6⟩ := hsp
            exact ⟨_, _, _, S6.unsuite ok, r6, q6⟩
        | false =>
          show wpAny _ X.A (handleBy (.ref a) X.env hds2) _ _ _
          exact ih (hno rfl)
      | @as_ x n i c ts b₀ suite np pos' hds2 l2 hc hi hln hsu r ih =>
        intro w
        obtain ⟨b, hb1, hyes, hno⟩ := w
        have hloc : Loc X.env.scope n := .inl hln
        refine wpAny_handleBy_cons (codeAny_handlers_test ?_) (by intro q; cases q)
        have LM := PySem.W.exm_one (M := model X.prog X.w) (J3.kIn) LT hb1
        refine nameTest hc (LM.here ?_)
        cases b with
        | true =>
          refine codeAny_handlers_suite_as ?_
          refine HandSPX.lands_againZ fl3 fun h4 fl4 up4 => ?_
          have J4 : L2.Inv X pins σ' H' { s' with heap := h4 } := J.landed nb fl4.1 ((up.trans up3).trans up4) os ag
          obtain ⟨oe4, vs4, he4, hz4, hd4⟩ := fl4.there
          have S4 := J4.suite he4 hd4 na nL nF
          refine store_ok (X := X.suite a ((a, oe4) :: (X.pn ++ pins))) (v := .ref a) S4 hN hi hloc rfl (fun s5 S5 => ?_) (.inr hln)
          refine wpAny_mono ((hsu a oe4 cls d (X.pn ++ pins) hz4 ⟨_, hd4⟩).run [] s5 _ H' _ S5 (hyes rfl a na)) (fun f s6 hsp => ?_) (fun _ _ z => False.elim z)
          have end_ : ∀ {σ6 : L2.St} {H6 : Hp} {Q : Shared → Prop}, L2.Inv (X.suite a ((a, oe4) :: (X.pn ++ pins))) [] σ6 H6 s6 → (∀ s7, L2.Inv X pins (σ6.set i none) H6 s7 → Q s7) →
              wpAny (model X.prog X.w) X.A (do bindName X.env n .none; unbindBehindTheSuite X.env n pos') (fun _ s7 => Q s7) X.xe s6 := fun {σ6 H6 Q} S6 hq => gone_ok (S6.unsuite ok) hN hi hln hq
          cases f with
          | next =>
            obtain ⟨σ6, H6, S6, q6⟩ := hsp
            exact end_ S6 fun s7 J7 => ⟨_, _, J7, q6⟩
          | brk =>
            obtain ⟨σ6, H6, S6, q6⟩ := hsp
            exact end_ S6 fun s7 J7 => ⟨_, _, J7, q6⟩
          | cont =>
            obtain ⟨σ6, H6, S6, q6⟩ := hsp
            exact end_ S6 fun s7 J7 => ⟨_, _, J7, q6⟩
          | ret u =>
            obtain ⟨v6, σ6, H6, S6, r6, q6⟩ := hsp
            exact end_ S6 fun s7 J7 => ⟨_, _, _, J7, r6, q6⟩
        | false =>
          show wpAny _ X.A (handleBy (.ref a) X.env hds2) _ _ _
          exact ih (hno rfl)
    exact go hh w
  · cases f with
    | next =>
      obtain ⟨σ', H', J', q⟩ := hsp
      exact wpAny_execs_nil ⟨σ', H', J'.ofTry ok, q⟩
    | brk =>
      obtain ⟨σ', H', J', q⟩ := hsp
      exact ⟨σ', H', J'.ofTry ok, q⟩
    | cont =>
      obtain ⟨σ', H', J', q⟩ := hsp
      exact ⟨σ', H', J'.ofTry ok, q⟩
    | ret u =>
      obtain ⟨v, σ', H', J', r, q⟩ := hsp
      exact ⟨v, σ', H', J'.ofTry ok, r, q⟩
end
/-- a clause: which classes it takes; its suite; or the field of what it took, returned -/
inductive ClD where
  | plain (sub : Nat → Bool) (d : DenS)
  | field (sub : Nat → Bool) (i : Nat)
def noXS : OutS → OutS
  | .exc _ _ _ _ => .bad
  | r => r
def handleD (fe : FE) (c : Nat) (p : Option D) (ρ : Env) (m : Mem) : List ClD → OutS
  | [] => .exc c p ρ m
  | .plain sub d :: r => if sub c = true then noXS (d fe ρ m) else handleD fe c p ρ m r
  | .field sub i :: r => if sub c = true then (match p with
    | some v => if i < ρ.length then .ret v m else .bad
    | none => .bad) else handleD fe c p ρ m r
def sTry (b : DenS) (cls : List ClD) : DenS := fun fe ρ m => match b fe ρ m with
  | .exc c p ρ' m' => handleD fe c p ρ' m' cls
  | r => r
inductive ClOk (G : Gx) (K : PySem.W.Frag) (fe : FE) : List Clause → List ClD → Prop
  | nil : ClOk G K fe [] []
  | plain {c : Value} {sub : Nat → Bool} {d : DenS} {l : List Clause} {r : List ClD} (hs : ∀ c' C', G.ca c' = some C' → PySem.W.exmOne K (.ref C') c = some (sub c')) (t : ClOk G K fe l r) :
      ClOk G K fe ((c, none, fun _ _ _ => tS G noW fe fun fe ρ m => noXS (d fe ρ m)) :: l) (.plain sub d :: r)
  | field {c : Value} {sub : Nat → Bool} {i k : Nat} {C : Addr} {l : List Clause} {r : List ClD} (hs : ∀ c' C', G.ca c' = some C' → PySem.W.exmOne K (.ref C') c = some (sub c')) (hk : ∀ c', sub c' = true → c' = k) (hC : G.ca k = some C) (t : ClOk G K fe l r) :
      ClOk G K fe ((c, some i, fun a cls d => tRet (tXf a cls d C (G.xf k) (tVar i))) :: l) (.field sub i :: r)
theorem wMix_of {G : Gx} {K : PySem.W.Frag} {fe : FE} {W : WX} {D : Ends} {H : Hp} {β : List Pl} {m : Mem} {σ : L2.St} {ρ : Env} {c : Nat} {p : Option Mn.D} {cls : Value} {dd : Option Addr} (rp : Rp G H β m) (rs : RS G H β σ ρ) (rx : RX G H β cls dd c p) :
    ∀ {l : List Clause} {r : List ClD}, ClOk G K fe l r → GoodS G W D H β (handleD fe c p ρ m r) → wMix K W D l cls dd σ H
  | _, _, .nil, g => g cls dd σ β H Ext.refl rp rs rx
  | _, _, .plain (sub := sub) (d := ds) hs t, g => by
    obtain ⟨C, rfl, hC, _⟩ := id rx
    refine ⟨sub c, hs c C hC, fun hb a ha => ?_, fun hb => ?_⟩
    · simp only [handleD, if_pos hb] at g
      refine ⟨β, m, ρ, rp, rs, ?_⟩
      cases e : ds fe ρ m <;> simp only [e, noXS] at g ⊢ <;> first | exact g | exact g.elim
    · simp only [handleD, hb, Bool.false_eq_true, if_false] at g
      exact wMix_of rp rs rx t g
  | _, _, .field (sub := sub) (i := i) hs hk hC t, g => by
    obtain ⟨C', rfl, hC', hp⟩ := id rx
    refine ⟨sub c, hs c C' hC', fun hb a ha => ?_, fun hb => ?_⟩
    · simp only [handleD, if_pos hb] at g
      obtain rfl := hk c hb
      rw [hC] at hC'
      cases hC'
      cases p with
      | none => exact g.elim
      | some v =>
        simp only at g hp
        split at g
        · rename_i hi
          obtain ⟨x, u, rfl, hx, ru⟩ := hp
          refine ⟨.ref a, List.getElem?_set_self (by rw [rs.len]; exact hi), rfl, rfl, x, _, u, rfl, hx, by simp [List.lookup], ?_⟩
          exact g u β H Ext.refl rp ru
        · exact g.elim
    · simp only [handleD, hb, Bool.false_eq_true, if_false] at g
      exact wMix_of rp rs rx t g
section
variable {G : Gx} {X : Cx} {fe : FE} {body : List Stmt} {h₀ : ExceptHandler} {hds : List ExceptHandler} {l : List Clause} {r : List ClD} {pos : Pos} {b : DenS} {W : WX}
theorem stry_ok (hs : X.stack = X.env :: X.outer) (hf : X.env.frame = some X.env.locals) (hN : X.N.Nodup) (tk : Takes X W)
    (hb : ∀ (W : WX) (pn : List (Addr × Obj)) (xe : Value → Shared → Prop), Takes (X.tr pn xe) W → PassesOwn (model X.prog X.w) X.A X.env xe → PSs (X.tr pn xe) body (tS G W fe b))
    (hh : HdsMix X (h₀ :: hds) l) (hc : ClOk G X.K fe l r) : PS X (.Try body (h₀ :: hds) [] [] pos) (tS G W fe (sTry b r)) := PS.imp (ps_try_mix hs hf hN tk hb hh) fun D σ H h => by
  obtain ⟨β, m, ρ, rp, rs, g⟩ := h
  refine ⟨β, m, ρ, rp, rs, ?_⟩
  unfold sTry at g
  cases e : b fe ρ m with
  | exc c p ρ' m' =>
    rw [e] at g
    exact fun cls dd σ' β' H' x rp' rs' rx => wMix_of rp' rs' rx hc (GoodS.ext g x)
  | next ρ' m' => rw [e] at g; exact g
  | brk ρ' m' => rw [e] at g; exact g
  | cont ρ' m' => rw [e] at g; exact g
  | ret v m' => rw [e] at g; exact g
  | bad => rw [e] at g; exact g
end
section
variable {G : Gx} {X : Cx} {fe : FE} {x : Str} {c : Value} {sub : Nat → Bool} {d : DenS} {b₀ : Stmt} {suite : List Stmt} {np pos' : Pos}
/-- the suite of a clause without a name -/
theorem suite_ok {X' : Cx} {sts : List Stmt} {ds : DenS} (h : PSs X' sts (tS G noW fe ds)) : PSs X' sts (tS G noW fe fun fe ρ m => noXS (ds fe ρ m)) := PSs.imp h fun D σ H hh => by
  obtain ⟨β, m, ρ, rp, rs, g⟩ := hh
  refine ⟨β, m, ρ, rp, rs, ?_⟩
  cases e : ds fe ρ m <;> simp only [e, noXS] at g ⊢ <;> first | exact g | exact g.elim
/-- return e.f, e what the clause took -/
theorem field_ok {C a : Addr} {oe : Obj} {cls : Value} {dd : Option Addr} {pn : List (Addr × Obj)} {n fld : Str} {i : Nat} {q1 q2 pos : Pos} (T : XfC X.K C) (hno : PySem.W.findIn X.K (.ref C) fld = some none) (hz : Zc cls dd oe) (hf : ∃ vs, oe.data = .fields vs)
    (hi : X.N[i]? = some n) (hv : Vis X.env.scope n) (hd : (n == ("__debug__" : Str)) = false) (hcd : (n == ("__classdict__" : Str)) = false) (hb : attributeBase (.Name n q1) fld X.env (eval (.Name n q1) X.env) = eval (.Name n q1) X.env) :
    PSs (X.suite a ((a, oe) :: pn)) [.Return (some (.Attribute (.Name n q1) fld q2)) pos] (tRet (tXf a cls dd C fld (tVar i))) :=
  pss_one (ps_ret (pe_xf T hno hz hf (pe_var hi hv hd hcd) hb))
end
end Mn
set_option Elab.async false
set_option linter.all false
set_option maxRecDepth 100000
set_option maxHeartbeats 1000000
/-! Mn18: the words: each rule with what it wants of the text found by itself. -/
namespace Mn
open PySem L2 PySem.Spec PyProof.Rows
/-- what the text names: defs, built-ins, constants; classes of errors with their subclass table, field names -/
structure Tx where
  fns : List Str
  bls : List Str
  cns : List (Str × D)
  exs : List (Str × Option Str)
  sub : List (List Nat)
/-- whether c' is one of the class c -/
def Tx.of (T : Tx) (c c' : Nat) : Bool := (T.sub.getD c []).contains c'
mutual
/-- a constant of the text -/
def CD (K : PySem.W.Frag) : Value → D → Prop
  | u, .int i => ∃ t, u = .int i t
  | u, .str z => ∃ t, u = .str z t
  | u, .bl b => u = .bool b
  | u, .non => u = .none
  | u, .tup ds => ∃ a o its n, u = .ref a ∧ K.lookup a = some o ∧ o.cls = .type "tuple" ∧ o.dict = none ∧ o.data = .seq its n ∧ its.size ≤ sizeLine ∧ CDs K its.toList ds
  | u, .seq ds => ∃ a o its n, u = .ref a ∧ K.lookup a = some o ∧ o.cls = .type "list" ∧ o.dict = none ∧ o.data = .seq its n ∧ its.size ≤ sizeLine ∧ CDs K its.toList ds
  | _, _ => False
def CDs (K : PySem.W.Frag) : List Value → List D → Prop
  | us, [] => us = []
  | us, d :: ds => ∃ u r, us = u :: r ∧ CD K u d ∧ CDs K r ds
end
/-- what the written part says of an error's class -/
def ExOk (G : Gx) (K : PySem.W.Frag) (mg : Str → Option Value) (c : Nat) (x : Str) (fld : Option Str) : Prop := ∃ C, G.ca c = some C ∧ mg x = some (.ref C) ∧ PySem.W.keepIn K (.ref C) = true ∧ PySem.W.subIn K (.ref C) (.type "BaseException") = some true ∧ PySem.W.typeIn K (.ref C) = some (.type "type") ∧
  (match fld with
  | none => PySem.W.excIn K C [.type "ValueError", .type "Exception", .type "BaseException", .type "object"] "ValueError.__new__" = true
  | some f => G.xf c = f ∧ OexC K C ∧ XfC K C ∧ PySem.W.findIn K (.ref C) f = some none ∧ ∃ fI fd, PySem.W.findIn K (.ref C) "__init__" = some (some (.ref fI)) ∧ PySem.W.typeIn K (.ref fI) = some (.type "function") ∧ Binds K fd ["self", "word"] [] ∧
    ∀ (P : Program) (w : World) (mg : Str → Option Value) (base : Heap), FnOk P w K mg base (L2.CX P w) 1 fI fd ["self", "word"] (spInit K f))
structure TxOk (G : Gx) (K : PySem.W.Frag) (mg : Str → Option Value) (T : Tx) : Prop where
  fn : ∀ (j : Nat) (x : Str), T.fns[j]? = some x → ∃ f, G.fa j = some f ∧ mg x = some (.ref f)
  bl : ∀ (j : Nat) (x : Str), T.bls[j]? = some x → mg x = none
  cn : ∀ (i : Nat) (x : Str) (d : D), T.cns[i]? = some (x, d) → ∃ u, mg x = some u ∧ CD K u d
  ex : ∀ (c : Nat) (x : Str) (f : Option Str), T.exs[c]? = some (x, f) → ExOk G K mg c x f
  exm : ∀ c C c' C', G.ca c = some C → G.ca c' = some C' → PySem.W.exmOne K (.ref C') (.ref C) = some (T.of c c')
/-- what holds in every place of a def's text -/
structure Ok (T : Tx) (G : Gx) (X : Cx) (W : WX) (fe : FE) (k : Nat) : Prop where
  on : On G X
  calm : X.calm = true
  room : Room (k + 2) X.A
  tk : Takes X W
  F : Fns G X.prog X.w X.K X.mg X.base (k + 2) fe
  tx : TxOk G X.K X.mg T
  nd : X.N.Nodup
/-- a statement's place -/
structure OkS (T : Tx) (G : Gx) (X : Cx) (W : WX) (fe : FE) (k : Nat) : Prop extends Ok T G X W fe k where
  hs : X.stack = X.env :: X.outer
  hf : X.env.frame = some X.env.locals
  pass : PassesOwn (model X.prog X.w) X.A X.env X.xe
section
variable {T : Tx} {G : Gx} {X : Cx} {W : WX} {fe : FE} {k : Nat}
theorem Ok.u65 (h : Ok T G X W fe k) : X.A.units + 65 < cLine := by have := h.room.un; omega
theorem Ok.u64 (h : Ok T G X W fe k) : X.A.units + 64 < cLine := by have := h.room.un; omega
theorem Ok.blk (h : Ok T G X W fe k) (s : Shared) (H : Hp) (sc : Scope) (env : PySem.Env) (fp : List Addr) : Ok T G (X.blk s H sc env fp) noW fe k :=
  ⟨⟨h.on.P, h.on.w, h.on.K⟩, h.calm, h.room, takes_none5, h.F, h.tx, h.nd⟩
theorem OkS.tr (h : OkS T G X W fe k) {W' : WX} {pn : List (Addr × Obj)} {xe : Value → Shared → Prop} (tk : Takes (X.tr pn xe) W') (ps : PassesOwn (model X.prog X.w) X.A X.env xe) : OkS T G (X.tr pn xe) W' fe k :=
  ⟨⟨⟨h.on.P, h.on.w, h.on.K⟩, h.calm, h.room, tk, h.F, h.tx, h.nd⟩, h.hs, h.hf, ps⟩
theorem Ok.body {P : Program} {w : World} {K : PySem.W.Frag} {mg : Str → Option Value} {base : Heap} {N : List Str} {q : Str} {sc : Scope} {f : Addr} {cdv : Value} {A : Around} {outer : List PySem.Env} {s : Shared} {H : Hp} {E : XK}
    (hG : G.P = P ∧ G.w = w ∧ G.K = K) (hr : Room (k + 2) (A.deeper (envOfC q sc s.heap.objs.size f cdv))) (F : Fns G P w K mg base (k + 2) fe) (tx : TxOk G K mg T) (nd : N.Nodup) :
    OkS T G (cxOf (L2.CX P w) P w K mg base N q sc f cdv A outer s H E) (fun c d _ H => E c d H) fe k :=
  ⟨⟨⟨hG.1.symm, hG.2.1.symm, hG.2.2.symm⟩, rfl, hr, takes_of rfl rfl rfl rfl, F, tx, nd⟩, rfl, rfl, passes_of rfl⟩
mutual
theorem CD.rv : ∀ (d : D) (u : Value), CD G.K u d → ∃ v, RelV v u ∧ ∀ H β, RV G H β v d
  | .int i, u, h => by
    simp only [CD] at h
    obtain ⟨t, rfl⟩ := h
    exact ⟨.int i, ⟨_, rfl⟩, fun _ _ => by simp [RV]⟩
  | .str i, u, h => by
    simp only [CD] at h
    obtain ⟨t, rfl⟩ := h
    exact ⟨.str i, ⟨_, rfl⟩, fun _ _ => by simp [RV]⟩
  | .bl i, u, h => by
    simp only [CD] at h
    subst h
    exact ⟨.bl i, rfl, fun _ _ => by simp [RV]⟩
  | .non, u, h => by
    simp only [CD] at h
    subst h
    exact ⟨.non, rfl, fun _ _ => by simp [RV]⟩
  | .tup ds, u, h => by
    simp only [CD] at h
    obtain ⟨a, o, its, n, rfl, h1, h2, h3, h4, h5, l⟩ := h
    obtain ⟨vs, r, q⟩ := CDs.rv ds _ l
    exact ⟨.ref a, rfl, fun H β => by simp only [RV]; exact ⟨a, vs, rfl, .inr ⟨_, _, _, h1, h2, h3, h4, h5, r⟩, q H β⟩⟩
  | .seq ds, u, h => by
    simp only [CD] at h
    obtain ⟨a, o, its, n, rfl, h1, h2, h3, h4, h5, l⟩ := h
    obtain ⟨vs, r, q⟩ := CDs.rv ds _ l
    exact ⟨.ref a, rfl, fun H β => by simp only [RV]; exact ⟨a, vs, rfl, .inr ⟨_, _, _, h1, h2, h3, h4, h5, r⟩, q H β⟩⟩
  | .loc _, u, h => by simp [CD] at h
  | .fn _, u, h => by simp [CD] at h
theorem CDs.rv : ∀ (ds : List D) (us : List Value), CDs G.K us ds → ∃ vs, Vals vs us ∧ ∀ H β, RVs G H β vs ds
  | [], us, h => by
    simp only [CDs] at h
    subst h
    exact ⟨[], .nil, fun _ _ => RVs.nil⟩
  | d :: ds, us, h => by
    simp only [CDs] at h
    obtain ⟨u, r, rfl, h1, h2⟩ := h
    obtain ⟨v, r1, q⟩ := CD.rv d u h1
    obtain ⟨vs, r2, q2⟩ := CDs.rv ds r h2
    exact ⟨v :: vs, .cons r1 r2, fun H β => RVs.cons (q H β) (q2 H β)⟩
end
end
/-- a comparison as a test -/
def tB (a : Den) : DenT := fun fe ρ m => (a fe ρ m).bind fun x m1 => match x with
  | .bl b => .ok b m1
  | _ => .bad
/-! ### expressions -/
section
variable {T : Tx} {G : Gx} {X : Cx} {W : WX} {fe : FE} {k : Nat} {a b c e o : Expr} {es rest : List Expr} {da db dc : Den} {dA : DenA} {dt du : DenT} {x : Str} {p p2 q q2 tp pos apos : Pos} {f f' : Op2}
theorem tB_red {σ : L2.St} {H : Hp} {Q : Bool → Hp → Prop} (h : tT G W fe (tB da) σ H Q) : tE G W fe da σ H fun x H' => ∃ k, x = .bl k ∧ Q k H' := by
  obtain ⟨β, m, ρ, rp, rs, g⟩ := h
  refine ⟨β, m, ρ, rp, rs, (GoodO.mono (GoodO.bind g) fun x m1 H1 β1 e1 rp1 g1 u ru => ?_).e⟩
  cases x with
  | bl k =>
    simp only [RV] at ru; subst ru
    exact ⟨k, rfl, g1 β1 H1 Ext.refl rp1⟩
  | _ => exact False.elim g1
theorem tcmp_ok {op : CmpOp} (ho : OpR X (compareOp op) (rO2 G f)) (ha : PE X a (tE G W fe da)) (hb : PE X b (tE G W fe db)) (hm : behindInMarks op b = false) : PT X (.Compare a [op] [b] pos) (tT G W fe (tB (xBin f da db))) :=
  PT.imp (pt_cmpR ho ha hb hm) fun _ _ _ h => bin_red (fun _ _ _ _ x => x) (tB_red h)
theorem chain_red {σ : L2.St} {H : Hp} {Q : VK} (h : tE G W fe (xChain f f' da db dc) σ H Q) : tChain (rO2 G f) (rO2 G f') (tE G W fe da) (tE G W fe db) (tE G W fe dc) σ H Q := by
  obtain ⟨β, m, ρ, rp, rs, g⟩ := h
  refine ⟨β, m, ρ, rp, rs, (GoodO.mono (GoodO.bind (GoodE.iff.mp g)) fun x m1 H1 β1 e1 rp1 g1 u ru => ?_).e⟩
  refine ⟨β1, m1, ρ, rp1, rs.ext rp e1, (GoodO.mono (GoodO.bind g1) fun y m2 H2 β2 e2 rp2 g2 w rw' => ?_).e⟩
  refine ⟨β2, m2, x, y, rp2, RV.mono (e2.tl rp1) e2.bl _ _ ru, rw', ?_⟩
  have g3 := GoodO.bind g2
  cases e : f x y m2 with
  | none => rw [e] at g3; exact g3
  | some p =>
    rw [e] at g3
    obtain ⟨z, m3⟩ := p
    intro uz β3 H3 e3 rp3 rz
    have g4 := g3 β3 H3 e3 rp3
    cases z with
    | bl k =>
      simp only [RV] at rz; subst rz
      cases k with
      | true =>
        refine ⟨true, rfl, β3, m3, ρ, rp3, (rs.ext rp e1 |>.ext rp1 e2).ext rp2 e3, (GoodO.mono (GoodO.bind g4) fun w4 m4 H4 β4 e4 rp4 g5 uw ruw => ?_).e⟩
        exact ⟨β4, m4, y, w4, rp4, RV.mono (e4.tl rp3) e4.bl _ _ (RV.mono (e3.tl rp2) e3.bl _ _ rw'), ruw, GoodE.ofO (g5.e)⟩
      | false => exact ⟨false, rfl, Post.bl (GoodE.iff.mpr g4) rp3⟩
    | _ => exact False.elim g4
theorem tchain_ok {op op' : CmpOp} (ho : OpR X (compareOp op) (rO2 G f)) (ho' : OpR X (compareOp op') (rO2 G f')) (ha : PE X a (tE G W fe da)) (hb : PE X b (tE G W fe db)) (hc : PE X c (tE G W fe dc)) (hm : lastMarks [op, op'] [b, c] = false) :
    PT X (.Compare a [op, op'] [b, c] pos) (tT G W fe (tB (xChain f f' da db dc))) := PT.imp (pt_chain ho ho' ha hb hc hm) fun _ _ _ h => chain_red (tB_red h)
namespace Ok
variable (h : Ok T G X W fe k)
include h
omit h in
theorem v (h : Ok T G X W fe k) (i : Nat) (hN : X.N[i]? = some x := by rfl) (hv : Vis X.env.scope x := by first | exact Or.inl rfl | exact Or.inr (Or.inl rfl) | exact Or.inr (Or.inr rfl)) (hd : (x == ("__debug__" : Str)) = false := by decide)
    (hcd : (x == ("__classdict__" : Str)) = false := by decide) : PE X (.Name x pos) (tE G W fe (xVar i)) := pv_ok (pe_var hN hv hd hcd)
theorem int {n : Int} {j : Nat} : PE X (.Constant (.int n) j pos) (tE G W fe (xLit (.int n))) := lit_ok (fun _ _ => by simp [RV]) pe_int
theorem str {z : Str} {j : Nat} : PE X (.Constant (.str z) j pos) (tE G W fe (xLit (.str z))) := lit_ok (fun _ _ => by simp [RV]) pe_str
theorem bo {z : Bool} {j : Nat} : PE X (.Constant (.bool z) j pos) (tE G W fe (xLit (.bl z))) := lit_ok (fun _ _ => by simp [RV]) pe_bl
theorem non {j : Nat} : PE X (.Constant .none j pos) (tE G W fe (xLit .non)) := lit_ok (fun _ _ => by simp [RV]) pe_non
/-- a constant of the text -/
theorem cn (j : Nat) {d : D} (hj : T.cns[j]? = some (x, d) := by rfl) (hg : Gl X x := by rfl) (hd : (x == ("__debug__" : Str)) = false := by decide) : PE X (.Name x pos) (tE G W fe (xLit d)) := by
  obtain ⟨u, hm, hc⟩ := h.tx.cn j x d hj
  have hc' : CD G.K u d := h.on.K ▸ hc
  obtain ⟨v, r, q⟩ := CD.rv d u hc'
  exact lit_ok q (pe_glob hg hm r hd)
/-- a def as a value -/
theorem fv (j : Nat) (hj : T.fns[j]? = some x := by rfl) (hg : Gl X x := by rfl) (hd : (x == ("__debug__" : Str)) = false := by decide) : PE X (.Name x pos) (tE G W fe (xLit (.fn j))) := by
  obtain ⟨f, hf, hm⟩ := h.tx.fn j x hj
  exact lit_ok (fun _ _ => by simp [RV, hf]) (pe_glob (v := .ref f) hg hm rfl hd)
theorem add (ha : PE X a (tE G W fe da)) (hb : PE X b (tE G W fe db)) : PE X (.BinOp a .Add b pos) (tE G W fe (xBin opAdd da db)) := xbin_ok (opAdd_ok h.on) ha hb
theorem sub (ha : PE X a (tE G W fe da)) (hb : PE X b (tE G W fe db)) : PE X (.BinOp a .Sub b pos) (tE G W fe (xBin opSub da db)) := xbin_ok (opSub_ok h.on) ha hb
theorem mul (ha : PE X a (tE G W fe da)) (hb : PE X b (tE G W fe db)) : PE X (.BinOp a .Mult b pos) (tE G W fe (xBin opMul da db)) := xbin_ok (opMul_ok h.on) ha hb
theorem fdiv (ha : PE X a (tE G W fe da)) (hb : PE X b (tE G W fe db)) : PE X (.BinOp a .FloorDiv b pos) (tE G W fe (xBin opFdiv da db)) := xbin_ok (opFdiv_ok h.on) ha hb
theorem mod (ha : PE X a (tE G W fe da)) (hb : PE X b (tE G W fe db)) : PE X (.BinOp a .Mod b pos) (tE G W fe (xBin opMod da db)) := xbin_ok (opMod_ok h.on) ha hb
theorem pow (ha : PE X a (tE G W fe da)) (hb : PE X b (tE G W fe db)) : PE X (.BinOp a .Pow b pos) (tE G W fe (xBin opPow da db)) := xbin_ok (opPow_ok h.on) ha hb
theorem eq (ha : PE X a (tE G W fe da)) (hb : PE X b (tE G W fe db)) : PE X (.Compare a [.Eq] [b] pos) (tE G W fe (xBin opEq da db)) := xcmp_ok (opEq_ok h.on h.u64) ha hb (nomark _)
theorem teq (ha : PE X a (tE G W fe da)) (hb : PE X b (tE G W fe db)) : PT X (.Compare a [.Eq] [b] pos) (tT G W fe (tB (xBin opEq da db))) := tcmp_ok (opEq_ok h.on h.u64) ha hb (nomark _)
theorem ne (ha : PE X a (tE G W fe da)) (hb : PE X b (tE G W fe db)) : PE X (.Compare a [.NotEq] [b] pos) (tE G W fe (xBin opNe da db)) := xcmp_ok (opNe_ok h.on h.u64) ha hb (nomark _)
theorem tne (ha : PE X a (tE G W fe da)) (hb : PE X b (tE G W fe db)) : PT X (.Compare a [.NotEq] [b] pos) (tT G W fe (tB (xBin opNe da db))) := tcmp_ok (opNe_ok h.on h.u64) ha hb (nomark _)
theorem lt (ha : PE X a (tE G W fe da)) (hb : PE X b (tE G W fe db)) : PE X (.Compare a [.Lt] [b] pos) (tE G W fe (xBin opLt da db)) := xcmp_ok (opLt_ok h.on h.u64) ha hb (nomark _)
theorem tlt (ha : PE X a (tE G W fe da)) (hb : PE X b (tE G W fe db)) : PT X (.Compare a [.Lt] [b] pos) (tT G W fe (tB (xBin opLt da db))) := tcmp_ok (opLt_ok h.on h.u64) ha hb (nomark _)
theorem le (ha : PE X a (tE G W fe da)) (hb : PE X b (tE G W fe db)) : PE X (.Compare a [.LtE] [b] pos) (tE G W fe (xBin opLe da db)) := xcmp_ok (opLe_ok h.on) ha hb (nomark _)
theorem tle (ha : PE X a (tE G W fe da)) (hb : PE X b (tE G W fe db)) : PT X (.Compare a [.LtE] [b] pos) (tT G W fe (tB (xBin opLe da db))) := tcmp_ok (opLe_ok h.on) ha hb (nomark _)
theorem gt (ha : PE X a (tE G W fe da)) (hb : PE X b (tE G W fe db)) : PE X (.Compare a [.Gt] [b] pos) (tE G W fe (xBin opGt da db)) := xcmp_ok (opGt_ok h.on) ha hb (nomark _)
theorem tgt (ha : PE X a (tE G W fe da)) (hb : PE X b (tE G W fe db)) : PT X (.Compare a [.Gt] [b] pos) (tT G W fe (tB (xBin opGt da db))) := tcmp_ok (opGt_ok h.on) ha hb (nomark _)
theorem ge (ha : PE X a (tE G W fe da)) (hb : PE X b (tE G W fe db)) : PE X (.Compare a [.GtE] [b] pos) (tE G W fe (xBin opGe da db)) := xcmp_ok (opGe_ok h.on) ha hb (nomark _)
theorem tge (ha : PE X a (tE G W fe da)) (hb : PE X b (tE G W fe db)) : PT X (.Compare a [.GtE] [b] pos) (tT G W fe (tB (xBin opGe da db))) := tcmp_ok (opGe_ok h.on) ha hb (nomark _)
theorem is_ (ha : PE X a (tE G W fe da)) (hb : PE X b (tE G W fe db)) : PE X (.Compare a [.Is] [b] pos) (tE G W fe (xBin opIs da db)) := xcmp_ok (opIs_ok h.on) ha hb (nomark _)
theorem tis_ (ha : PE X a (tE G W fe da)) (hb : PE X b (tE G W fe db)) : PT X (.Compare a [.Is] [b] pos) (tT G W fe (tB (xBin opIs da db))) := tcmp_ok (opIs_ok h.on) ha hb (nomark _)
theorem isn (ha : PE X a (tE G W fe da)) (hb : PE X b (tE G W fe db)) : PE X (.Compare a [.IsNot] [b] pos) (tE G W fe (xBin opIsNot da db)) := xcmp_ok (opIsNot_ok h.on) ha hb (nomark _)
theorem tisn (ha : PE X a (tE G W fe da)) (hb : PE X b (tE G W fe db)) : PT X (.Compare a [.IsNot] [b] pos) (tT G W fe (tB (xBin opIsNot da db))) := tcmp_ok (opIsNot_ok h.on) ha hb (nomark _)
theorem in_ (ha : PE X a (tE G W fe da)) (hb : PE X b (tE G W fe db)) (hm : behindInMarks .In b = false := by rfl) : PE X (.Compare a [.In] [b] pos) (tE G W fe (xBin opIn da db)) := xcmp_ok (opIn_ok h.on h.u65) ha hb hm
theorem tin_ (ha : PE X a (tE G W fe da)) (hb : PE X b (tE G W fe db)) (hm : behindInMarks .In b = false := by rfl) : PT X (.Compare a [.In] [b] pos) (tT G W fe (tB (xBin opIn da db))) := tcmp_ok (opIn_ok h.on h.u65) ha hb hm
theorem nin (ha : PE X a (tE G W fe da)) (hb : PE X b (tE G W fe db)) (hm : behindInMarks .NotIn b = false := by rfl) : PE X (.Compare a [.NotIn] [b] pos) (tE G W fe (xBin opNotIn da db)) := xcmp_ok (opNotIn_ok h.on h.u65) ha hb hm
theorem tnin (ha : PE X a (tE G W fe da)) (hb : PE X b (tE G W fe db)) (hm : behindInMarks .NotIn b = false := by rfl) : PT X (.Compare a [.NotIn] [b] pos) (tT G W fe (tB (xBin opNotIn da db))) := tcmp_ok (opNotIn_ok h.on h.u65) ha hb hm
theorem oEq : OpR X (compareOp .Eq) (rO2 G opEq) := opEq_ok h.on h.u64
theorem oNotEq : OpR X (compareOp .NotEq) (rO2 G opNe) := opNe_ok h.on h.u64
theorem oLt : OpR X (compareOp .Lt) (rO2 G opLt) := opLt_ok h.on h.u64
theorem oLtE : OpR X (compareOp .LtE) (rO2 G opLe) := opLe_ok h.on
theorem oGt : OpR X (compareOp .Gt) (rO2 G opGt) := opGt_ok h.on
theorem oGtE : OpR X (compareOp .GtE) (rO2 G opGe) := opGe_ok h.on
theorem chain {op op' : CmpOp} (ho : OpR X (compareOp op) (rO2 G f)) (ho' : OpR X (compareOp op') (rO2 G f')) (ha : PE X a (tE G W fe da)) (hb : PE X b (tE G W fe db)) (hc : PE X c (tE G W fe dc)) (hm : lastMarks [op, op'] [b, c] = false := by with_unfolding_all rfl) :
    PE X (.Compare a [op, op'] [b, c] pos) (tE G W fe (xChain f f' da db dc)) := xchain_ok ho ho' ha hb hc hm
theorem tchain {op op' : CmpOp} (ho : OpR X (compareOp op) (rO2 G f)) (ho' : OpR X (compareOp op') (rO2 G f')) (ha : PE X a (tE G W fe da)) (hb : PE X b (tE G W fe db)) (hc : PE X c (tE G W fe dc)) (hm : lastMarks [op, op'] [b, c] = false := by with_unfolding_all rfl) :
    PT X (.Compare a [op, op'] [b, c] pos) (tT G W fe (tB (xChain f f' da db dc))) := tchain_ok ho ho' ha hb hc hm
theorem neg (ha : PE X a (tE G W fe da)) : PE X (.UnaryOp .USub a pos) (tE G W fe (xNeg da)) := xneg_ok ha
theorem tv (ha : PE X a (tE G W fe da)) (he : ∀ whole, PySem.isTrue a X.env whole = (do let v ← whole; standAt a.pos; holding [v] (truthy v)) := by intro _; rfl) : PT X a (tT G W fe (tVal da)) := tval_ok h.on ha he
theorem tn (ha : PT X a (tT G W fe dt)) : PT X (.UnaryOp .Not a pos) (tT G W fe (tNt dt)) := tnt_ok ha
theorem ix (ha : PE X a (tE G W fe da)) (hb : PE X b (tE G W fe db)) (hs : PlainIx b := by intro _ _; rfl) : PE X (.Subscript a b pos) (tE G W fe (xBin opIx da db)) := xix_ok h.on h.u64 ha hb hs
theorem sl {lo hi : Option Expr} {dl dh : DenO} (ha : PE X a (tE G W fe da)) (hl : PO X lo (tOd G W fe dl)) (hh : PO X hi (tOd G W fe dh)) : PE X (.Subscript a (.Slice lo hi none p2) pos) (tE G W fe (xSl da dl dh)) := xsl_ok h.on ha hl hh
theorem ac (ha : PE X a (tE G W fe da)) (hr : PA X es (tA G W fe dA)) (hs : starEach (a :: es) X.env = (false, eval a X.env) :: starEach es X.env := by rfl) : PA X (a :: es) (tA G W fe (aCons da dA)) := acons_ok ha hr hs
theorem bi {id : String} {F : OpN} (hc : CallR X (.builtin id) (rON G F)) (j : Nat) (ha : PA X (e :: es) (tA G W fe dA)) (hv : bootBuiltins x = some (.builtin id)) (hj : T.bls[j]? = some x := by rfl) (hg : Gl X x := by rfl) (hn : x ≠ "__name__" := by decide) (hdb : (x == ("__debug__" : Str)) = false := by decide)
    (he : starEach (e :: es) X.env = (false, eval e X.env) :: starEach es X.env := by rfl) (hpl : (backTo pos (starEach es X.env)).any (·.1) = false := by rfl) : PE X (.Call (.Name x p) (e :: es) [] pos) (tE G W fe (xCallF F dA)) := xcallB_ok hc hg (h.tx.bl j x hj) hv ha hn hdb he hpl
theorem ty {id : String} {F : OpN} (hc : CallR X (.type id) (rON G F)) (j : Nat) (ha : PA X (e :: es) (tA G W fe dA)) (hv : bootBuiltins x = some (.type id)) (hj : T.bls[j]? = some x := by rfl) (hg : Gl X x := by rfl) (hn : x ≠ "__name__" := by decide) (hdb : (x == ("__debug__" : Str)) = false := by decide)
    (he : starEach (e :: es) X.env = (false, eval e X.env) :: starEach es X.env := by rfl) (hpl : (backTo pos (starEach es X.env)).any (·.1) = false := by rfl) : PE X (.Call (.Name x p) (e :: es) [] pos) (tE G W fe (xCallF F dA)) := xcallTy_ok hc hg (h.tx.bl j x hj) hv ha hn hdb he hpl
theorem call (j : Nat) (ha : PA X (e :: es) (tA G W fe dA)) (hj : T.fns[j]? = some x := by rfl) (hg : Gl X x := by rfl) (hdb : (x == ("__debug__" : Str)) = false := by decide)
    (he : starEach (e :: es) X.env = (false, eval e X.env) :: starEach es X.env := by rfl) (hpl : (backTo pos (starEach es X.env)).any (·.1) = false := by rfl) : PE X (.Call (.Name x p) (e :: es) [] pos) (tE G W fe (xCall j dA)) := by
  obtain ⟨f, hf, hm⟩ := h.tx.fn j x hj
  exact xcall_ok h.F h.tk h.room hf hg hm ha hdb he hpl
theorem call0 (j : Nat) (hj : T.fns[j]? = some x := by rfl) (hg : Gl X x := by rfl) (hdb : (x == ("__debug__" : Str)) = false := by decide) : PE X (.Call (.Name x p) [] [] pos) (tE G W fe (xCall j aNil)) := by
  obtain ⟨f, hf, hm⟩ := h.tx.fn j x hj
  exact xcall0_ok h.F h.tk h.room hf hg hm hdb
theorem callv (i : Nat) (ha : PA X (e :: es) (tA G W fe dA)) (hN : X.N[i]? = some x := by rfl) (hv : Vis X.env.scope x := by first | exact Or.inl rfl | exact Or.inr (Or.inl rfl) | exact Or.inr (Or.inr rfl)) (hdb : (x == ("__debug__" : Str)) = false := by decide) (hcd : (x == ("__classdict__" : Str)) = false := by decide)
    (he : starEach (e :: es) X.env = (false, eval e X.env) :: starEach es X.env := by rfl) (hpl : (backTo pos (starEach es X.env)).any (·.1) = false := by rfl) : PE X (.Call (.Name x p) (e :: es) [] pos) (tE G W fe (xCallV i dA)) := xcallV_ok h.F h.tk h.room hN hv ha hdb hcd he hpl
theorem isi {Ty : String} (j0 j : Nat) (ha : PE X e (tE G W fe da)) (hvT : bootBuiltins x = some (.type Ty)) (hT : Ty ∈ tys.tail := by decide) (hj0 : T.bls[j0]? = some "isinstance" := by rfl) (hj : T.bls[j]? = some x := by rfl) (hg : Gl X "isinstance" := by rfl) (hgT : Gl X x := by rfl)
    (hnT : x ≠ "__name__" := by decide) (hdT : (x == ("__debug__" : Str)) = false := by decide) (hs : starEach [e, .Name x q] X.env = (false, eval e X.env) :: starEach [.Name x q] X.env := by rfl) :
    PE X (.Call (.Name "isinstance" p) [e, .Name x q] [] pos) (tE G W fe (xIsi [Ty] da)) := xisi1_ok h.on hT ha hg (h.tx.bl j0 _ hj0) boot_isinstance (by decide) (by decide) hgT (h.tx.bl j _ hj) hvT hnT hdT hs rfl rfl
theorem mt1 {name : Str} {T1 : String} {F1 : OpM} (m1 : MtD G X name T1 F1) (ho : PE X o (tE G W fe da)) (ha : PA X (e :: es) (tA G W fe dA)) (h1 : T1 ≠ "" := by decide) (hbase : attributeBase o name X.env (eval o X.env) = eval o X.env := by rfl)
    (hfew : ((backTo pos (starEach (e :: es) X.env)).all (fun x => !x.1) && (backToKw pos (keywordEach [] X.env)).all (fun x => x.1.isSome)
      && decide ((e :: es).length + ([] : List Keyword).length + (if ([] : List Keyword).isEmpty then 0 else 1) < 30)) = true := by rfl)
    (hline : (apos.endLine == pos.line) = true := by rfl) (hs : starEach (e :: es) X.env = (false, eval e X.env) :: starEach es X.env := by rfl) (hplain : (backTo pos (starEach es X.env)).any (·.1) = false := by rfl) :
    PE X (.Call (.Attribute o name apos) (e :: es) [] pos) (tE G W fe (xMeth [(T1, F1)] da dA)) :=
  xmeth_ok h.on (fun t f hm => by simp only [List.mem_singleton, Prod.mk.injEq] at hm; obtain ⟨rfl, rfl⟩ := hm; exact ⟨m1, h1⟩) ho ha hbase hfew hline hs hplain
theorem mt2 {name : Str} {T1 T2 : String} {F1 F2 : OpM} (m1 : MtD G X name T1 F1) (m2 : MtD G X name T2 F2) (ho : PE X o (tE G W fe da)) (ha : PA X (e :: es) (tA G W fe dA)) (h1 : T1 ≠ "" := by decide) (h2 : T2 ≠ "" := by decide) (hbase : attributeBase o name X.env (eval o X.env) = eval o X.env := by rfl)
    (hfew : ((backTo pos (starEach (e :: es) X.env)).all (fun x => !x.1) && (backToKw pos (keywordEach [] X.env)).all (fun x => x.1.isSome)
      && decide ((e :: es).length + ([] : List Keyword).length + (if ([] : List Keyword).isEmpty then 0 else 1) < 30)) = true := by rfl)
    (hline : (apos.endLine == pos.line) = true := by rfl) (hs : starEach (e :: es) X.env = (false, eval e X.env) :: starEach es X.env := by rfl) (hplain : (backTo pos (starEach es X.env)).any (·.1) = false := by rfl) :
    PE X (.Call (.Attribute o name apos) (e :: es) [] pos) (tE G W fe (xMeth [(T1, F1), (T2, F2)] da dA)) :=
  xmeth_ok h.on (fun t f hm => by
    simp only [List.mem_cons, List.not_mem_nil, or_false, Prod.mk.injEq] at hm
    rcases hm with ⟨rfl, rfl⟩ | ⟨rfl, rfl⟩
    · exact ⟨m1, h1⟩
    · exact ⟨m2, h2⟩) ho ha hbase hfew hline hs hplain
theorem mt10 {name : Str} {T1 : String} {F1 : OpM} (m1 : MtD G X name T1 F1) (ho : PE X o (tE G W fe da)) (h1 : T1 ≠ "" := by decide) (hbase : attributeBase o name X.env (eval o X.env) = eval o X.env := by rfl) (hline : (apos.endLine == pos.line) = true := by rfl) :
    PE X (.Call (.Attribute o name apos) [] [] pos) (tE G W fe (xMeth [(T1, F1)] da aNil)) :=
  xmeth0_ok h.on (fun t f hm => by simp only [List.mem_singleton, Prod.mk.injEq] at hm; obtain ⟨rfl, rfl⟩ := hm; exact ⟨m1, h1⟩) ho hbase hline
theorem sortItems {xp cpos : Pos} (j : Nat) (ho : PE X o (tE G W fe da)) (hj : T.bls[j]? = some "sorted" := by rfl) (hg : Gl X "sorted" := by rfl) (hbase : attributeBase o "items" X.env (eval o X.env) = eval o X.env := by rfl) (hline : (apos.endLine == cpos.line) = true := by rfl) :
    PE X (.Call (.Name "sorted" xp) [.Call (.Attribute o "items" apos) [] [] cpos] [] pos) (tE G W fe (xItemsF bSortItems da)) := xsortItems_ok h.on h.calm h.u64 hg (h.tx.bl j _ hj) ho hbase hline (by decide) (by decide) boot_sorted rfl rfl
theorem len (j : Nat) (ha : PA X [e] (tA G W fe dA)) (hj : T.bls[j]? = some "len" := by rfl) (hg : Gl X "len" := by rfl) (he : starEach [e] X.env = (false, eval e X.env) :: starEach [] X.env := by rfl) : PE X (.Call (.Name "len" p) [e] [] pos) (tE G W fe (xCallF bLen dA)) := h.bi (bLen_ok h.on) j ha PySem.boot_len hj hg (by decide) (by decide) he rfl
/-! ### iterables, targets -/
theorem nm (i : Nat) (hi : X.N[i]? = some x := by rfl) (hx : Loc X.env.scope x := by first | exact Or.inl rfl | exact Or.inr rfl) (hf : X.fn x = true ∨ X.env.scope.names.lookup x = some .local := by first | exact Or.inl rfl | exact Or.inr rfl) : PG X (.Name x pos) (tP G (.nm i)) := pnm_ok h.nd hi hx hf
theorem pc {p : Pat} {ps : List Pat} (h1 : PG X e (tP G p)) (h2 : PGs X es (tPs G ps)) (hs : (assignEach (e :: es) X.env).map (·.2) = assign e X.env :: (assignEach es X.env).map (·.2) := by rfl) : PGs X (e :: es) (tPs G (p :: ps)) := pcons_ok h1 h2 hs
theorem tpl {ps : List Pat} {kk : Nat} (h1 : PGs X es (tPs G ps)) (hn : (assignEach es X.env).length = ps.length := by rfl) (hst : (assignEach es X.env).findIdx? (·.1) = none := by rfl) : PG X (.Tuple es kk pos) (tP G (.tp ps)) := ptup_ok h.on h.calm h1 hn hst
variable {tg : Expr} {P : Pat}
theorem it (he : PE X e (tE G W fe da)) : PI X tg e (tI G W fe P (iAny da)) := iany_ok h.on he
theorem rg1 (j : Nat) (ha : PA X [a] (tA G W fe dA)) (hj : T.bls[j]? = some "range" := by rfl) (hg : Gl X "range" := by rfl) (hs : starEach [a] X.env = [(false, eval a X.env)] := by rfl) : PI X tg (.Call (.Name "range" q) [a] [] pos) (tI G W fe P (iRange1 dA)) := irange1_ok hg (h.tx.bl j _ hj) ha hs
theorem rg2 (j : Nat) (ha : PA X [a, b] (tA G W fe dA)) (hj : T.bls[j]? = some "range" := by rfl) (hg : Gl X "range" := by rfl) (hs : starEach [a, b] X.env = [(false, eval a X.env), (false, eval b X.env)] := by rfl) (hs2 : starEach [b] X.env = [(false, eval b X.env)] := by rfl) : PI X tg (.Call (.Name "range" q) [a, b] [] pos) (tI G W fe P (iRange2 dA)) := irange2_ok hg (h.tx.bl j _ hj) ha hs hs2
theorem zp {elts : List Expr} {kk : Nat} {ps : List Pat} {tpos : Pos} (j : Nat) (ha : PA X [a, b] (tA G W fe dA)) (hj : T.bls[j]? = some "zip" := by rfl) (hg : Gl X "zip" := by rfl) (hs : starEach [a, b] X.env = (false, eval a X.env) :: starEach [b] X.env := by rfl) (hpl : (backTo pos (starEach [b] X.env)).any (·.1) = false := by rfl) :
    PI X (.Tuple elts kk tpos) (.Call (.Name "zip" q) [a, b] [] pos) (tI G W fe (.tp ps) (iZipD dA)) := izip_ok h.on hg (h.tx.bl j _ hj) ha hs hpl
theorem lc {elt iter : Expr} {ifs : List Expr} {scope : Scope} {it : DenI} {own : List (Str × Nat)} (ok : BlkOk X.N X.env.scope scope own) (hi : PI X tg iter (tI G W fe P it))
    (hg : ∀ (s : Shared) (H : Hp) (C : Addr) (cl : List (Str × Addr)) (fp : List Addr), Ok T G (X.blk s H scope (compEnvC scope cl C X.env) fp) noW fe k → PG (X.blk s H scope (compEnvC scope cl C X.env) fp) tg (tP G P))
    (ht : ∀ (s : Shared) (H : Hp) (C : Addr) (cl : List (Str × Addr)) (fp : List Addr), Ok T G (X.blk s H scope (compEnvC scope cl C X.env) fp) noW fe k → PTs (X.blk s H scope (compEnvC scope cl C X.env) fp) ifs (tT G noW fe dt))
    (he : ∀ (s : Shared) (H : Hp) (C : Addr) (cl : List (Str × Addr)) (fp : List Addr), Ok T G (X.blk s H scope (compEnvC scope cl C X.env) fp) noW fe k → PE (X.blk s H scope (compEnvC scope cl C X.env) fp) elt (tE G noW fe da)) (hs : ∀ x, foldedSetIterable iter X.env x = pure x := by intro _; rfl) (hsl : ∀ i ∈ P.slots, i ∈ own.map (·.2) := by decide) :
    PE X (.ListComp elt [⟨tg, iter, ifs, 0⟩] scope pos) (tE G W fe (xLc it P dt da (own.map (·.2)))) :=
  xlc_ok h.on h.calm h.nd hi ok (fun s H C cl fp => hg s H C cl fp (h.blk _ _ _ _ _)) (fun s H C cl fp => ht s H C cl fp (h.blk _ _ _ _ _)) (fun s H C cl fp => he s H C cl fp (h.blk _ _ _ _ _)) hs hsl
theorem dict {keys : List (Option Expr)} {values : List Expr} {l : List (Den × Den)} (hp : PPs X pos keys values (l.map fun p => (tE G W fe p.1, tE G W fe p.2))) (hall : keys.all (·.isSome) = true := by rfl) (hl : keys.length = values.length := by rfl) (h0 : keys ≠ [] := by simp) (h15 : keys.length ≤ 15 := by decide) :
    PE X (.Dict keys values pos) (tE G W fe (xDict l)) := xdict_ok h.on h.u64 hp hall hl h0 h15
end Ok
end
end Mn
set_option Elab.async false
set_option linter.all false
set_option maxRecDepth 100000
set_option maxHeartbeats 1000000
/-! Mn19: the words of statements; defs by steps. -/
namespace Mn
open PySem L2 PySem.Spec PyProof.Rows
theorem str0 {G : Gx} {X : Cx} {W : WX} {fe : FE} {z : Str} {j : Nat} {pos : Pos} : PE X (.Constant (.str z) j pos) (tE G W fe (xLit (.str z))) := lit_ok (fun _ _ => by simp [RV]) pe_str
theorem bo0 {G : Gx} {X : Cx} {W : WX} {fe : FE} {z : Bool} {j : Nat} {pos : Pos} : PE X (.Constant (.bool z) j pos) (tE G W fe (xLit (.bl z))) := lit_ok (fun _ _ => by simp [RV]) pe_bl
theorem int0 {G : Gx} {X : Cx} {W : WX} {fe : FE} {z : Int} {j : Nat} {pos : Pos} : PE X (.Constant (.int z) j pos) (tE G W fe (xLit (.int z))) := lit_ok (fun _ _ => by simp [RV]) pe_int
theorem non0 {G : Gx} {X : Cx} {W : WX} {fe : FE} {j : Nat} {pos : Pos} : PE X (.Constant .none j pos) (tE G W fe (xLit .non)) := lit_ok (fun _ _ => by simp [RV]) pe_non
theorem var0 {G : Gx} {X : Cx} {W : WX} {fe : FE} {x : Str} {pos : Pos} (i : Nat) (hN : X.N[i]? = some x := by rfl) (hv : Vis X.env.scope x := by first | exact Or.inl rfl | exact Or.inr (Or.inl rfl) | exact Or.inr (Or.inr rfl)) (hd : (x == ("__debug__" : Str)) = false := by decide)
    (hcd : (x == ("__classdict__" : Str)) = false := by decide) : PE X (.Name x pos) (tE G W fe (xVar i)) := pv_ok (pe_var hN hv hd hcd)
/-- except clauses -/
def Hds (T : Tx) (G : Gx) (X : Cx) (fe : FE) (hds : List ExceptHandler) (r : List ClD) : Prop := ∃ l, HdsMix X hds l ∧ ClOk G X.K fe l r
section
variable {T : Tx} {G : Gx} {X : Cx} {W : WX} {fe : FE} {k : Nat} {a b c e o : Expr} {es rest : List Expr} {da db dc di dO : Den} {dA : DenA} {dt du : DenT} {x : Str} {p p2 p' q q2 pos apos sp pos' : Pos} {ds ds' : DenS} {body sa sb : List Stmt} {tg iter : Expr} {P : Pat} {it : DenI}
theorem sx (he : PE X e (tE G W fe da)) (hs : swapsWith e none pos.line X.env = pure false := by rfl) : PS X (.Expr e pos) (tS G W fe (sExpr da)) := sexpr_ok he hs
namespace OkS
variable (h : OkS T G X W fe k)
include h
theorem set (i : Nat) (he : PE X e (tE G W fe da)) (hi : X.N[i]? = some x := by rfl) (hx : Loc X.env.scope x := by first | exact Or.inl rfl | exact Or.inr rfl) (hs : swapsWith e (some (.Name x p')) pos.line X.env = pure false := by rfl) (hf : X.fn x = true ∨ X.env.scope.names.lookup x = some .local := by first | exact Or.inl rfl | exact Or.inr rfl) :
    PS X (.Assign [.Name x p'] e pos) (tS G W fe (sSet i da)) := sset_ok h.nd hi hx he hs hf
theorem tup (he : PE X e (tE G W fe da)) (hg : PG X tg (tP G P)) (hs : swapsWithSole [tg] e pos.line X.env = pure false := by rfl) (hw : swappedStores [tg] e X.env = pure none := by rfl) (h1 : (assignEach [tg] X.env).map (·.2) = [assign tg X.env] := by rfl) :
    PS X (.Assign [tg] e pos) (tS G W fe (sTup P da)) := stup_ok he hg hs hw h1
theorem sub (he : PE X e (tE G W fe da)) (ho : PE X o (tE G W fe dO)) (hi : PE X b (tE G W fe di))
    (ha : ∀ v, assign (.Subscript o b sp) X.env v = (do
      let ov ← holding [v] (eval o X.env)
      let iv ← holding [v, ov] (eval b X.env)
      standAt sp
      holding [v, ov, iv] (setItem ov iv v)
      release [v, ov, iv] []) := by intro _; rfl)
    (hs : swapsWithSole [.Subscript o b sp] e pos.line X.env = pure false := by rfl) (hw : swappedStores [.Subscript o b sp] e X.env = pure none := by rfl) (h1 : (assignEach [.Subscript o b sp] X.env).map (·.2) = [assign (.Subscript o b sp) X.env] := by rfl) :
    PS X (.Assign [.Subscript o b sp] e pos) (tS G W fe (sSub dO di da)) := ssub_ok h.on h.u64 he ho hi ha hs hw h1
theorem for_ (hi : PI X tg iter (tI G W fe P it)) (hg : PG X tg (tP G P)) (hb : PSs X body (tS G W fe ds)) (hs : ∀ x, foldedSetIterable iter X.env x = pure x := by intro _; rfl) : PS X (.For tg iter body [] pos) (tS G W fe (sFor it P ds)) := sfor_ok h.pass h.calm hi hg hb hs
theorem while_ (hc : PT X c (tT G W fe dt)) (hb : PSs X body (tS G W fe ds)) : PS X (.While c body [] pos) (tS G W fe (sWhile dt ds)) := swhile_ok h.pass hc hb
theorem setLc {y : Str} {py spos : Pos} {elt : Expr} {ifs : List Expr} {scope : Scope} {own : List (Str × Nat)} (i : Nat) (ok : BlkOk X.N X.env.scope scope own) (hi : PI X tg iter (tI G W fe P it))
    (hg : ∀ (s : Shared) (H : Hp) (C : Addr) (cl : List (Str × Addr)) (fp : List Addr), Ok T G (X.blk s H scope (compEnvC scope cl C X.env) fp) noW fe k → PG (X.blk s H scope (compEnvC scope cl C X.env) fp) tg (tP G P))
    (ht : ∀ (s : Shared) (H : Hp) (C : Addr) (cl : List (Str × Addr)) (fp : List Addr), Ok T G (X.blk s H scope (compEnvC scope cl C X.env) fp) noW fe k → PTs (X.blk s H scope (compEnvC scope cl C X.env) fp) ifs (tT G noW fe dt))
    (he : ∀ (s : Shared) (H : Hp) (C : Addr) (cl : List (Str × Addr)) (fp : List Addr), Ok T G (X.blk s H scope (compEnvC scope cl C X.env) fp) noW fe k → PE (X.blk s H scope (compEnvC scope cl C X.env) fp) elt (tE G noW fe da))
    (hsw : swapsWith (.ListComp elt [⟨tg, iter, ifs, 0⟩] scope pos) (some (.Name y py)) spos.line X.env = pure true) (hy : X.N[i]? = some y := by rfl) (hyl : X.env.scope.names.lookup y = some .local := by rfl)
    (hs : ∀ x, foldedSetIterable iter X.env x = pure x := by intro _; rfl) (hsl : ∀ i ∈ P.slots, i ∈ own.map (·.2) := by decide) :
    PS X (.Assign [.Name y py] (.ListComp elt [⟨tg, iter, ifs, 0⟩] scope pos) spos) (tS G W fe (sSet i (xLc it P dt da (own.map (·.2))))) :=
  ssetLc_ok h.on h.calm h.nd hy hyl hsw hi ok (fun s H C cl fp => hg s H C cl fp (h.blk _ _ _ _ _)) (fun s H C cl fp => ht s H C cl fp (h.blk _ _ _ _ _)) (fun s H C cl fp => he s H C cl fp (h.blk _ _ _ _ _)) hs hsl
theorem raise0 (c : Nat) (hx : T.exs[c]? = some (x, none) := by rfl) (hg : Gl X x := by rfl) (hdb : (x == ("__debug__" : Str)) = false := by decide) : PS X (.Raise (some (.Call (.Name x p) [] [] pos)) none p2) (tS G W fe (sRaise0 c)) := by
  obtain ⟨C, hC, hm, hk, hs, ht, hq⟩ := h.tx.ex c x none hx
  exact sraise0_ok h.calm h.tk PySem.F.excBase_ValueError hq hm hk (raises_own hs ht) hg hdb hC
theorem raise1 {f : Str} (c : Nat) (ha : PA X [e] (tA G W fe dA)) (hx : T.exs[c]? = some (x, some f) := by rfl) (hg : Gl X x := by rfl) (hdb : (x == ("__debug__" : Str)) = false := by decide) (he : starEach [e] X.env = (false, eval e X.env) :: starEach [] X.env := by rfl) : PS X (.Raise (some (.Call (.Name x p) [e] [] pos)) none p2) (tS G W fe (sRaise1 c dA)) := by
  obtain ⟨C, hC, hm, hk, hs, ht, hxf, T1, T2, hno, fI, fd, hI, htI, hB, hF⟩ := h.tx.ex c x (some f) hx
  refine sraise1_ok (k := 1) h.calm h.tk T1 hI htI ?_ (h.room.mono (by omega)) hB (by rw [hxf]; exact hno) hg hm ha hC hdb he rfl
  rw [hxf]
  exact hF _ _ _ _
theorem try_ {h₀ : ExceptHandler} {hds : List ExceptHandler} {r : List ClD} (hb : ∀ (W' : WX) (pn : List (Addr × Obj)) (xe : Value → Shared → Prop), OkS T G (X.tr pn xe) W' fe k → PSs (X.tr pn xe) body (tS G W' fe ds)) (hh : Hds T G X fe (h₀ :: hds) r) :
    PS X (.Try body (h₀ :: hds) [] [] pos) (tS G W fe (sTry ds r)) := by
  obtain ⟨l, h1, h2⟩ := hh
  exact stry_ok h.hs h.hf h.nd h.tk (fun W' pn xe tk ps => hb W' pn xe (h.tr tk ps)) h1 h2
theorem hnil : Hds T G X fe [] [] := ⟨[], .nil, .nil⟩
theorem hplain {b₀ : Stmt} {suite : List Stmt} {hds : List ExceptHandler} {r : List ClD} {fl : Option Str} (c : Nat) (hr : Hds T G X fe hds r)
    (hsu : ∀ (a : Addr) (oe : Obj) (pn : List (Addr × Obj)), PSs (X.suite a ((a, oe) :: pn)) (b₀ :: suite) (tS G noW fe ds)) (hx : T.exs[c]? = some (x, fl) := by rfl) (hg : Gl X x := by rfl) (hdb : (x == ("__debug__" : Str)) = false := by decide) :
    Hds T G X fe (.ExceptHandler (some (.Name x p)) none (b₀ :: suite) pos' :: hds) (.plain (T.of c) ds :: r) := by
  obtain ⟨C, hC, hm, _⟩ := h.tx.ex c x fl hx
  obtain ⟨l, h1, h2⟩ := hr
  exact ⟨_, .plain ⟨hg, hdb, .inl hm⟩ (fun a oe cls d pn _ _ => suite_ok (hsu a oe pn)) h1, .plain (fun c' C' hc' => h.tx.exm c C c' C' hC hc') h2⟩
theorem hfield {n fld : Str} {q1 : Pos} {hds : List ExceptHandler} {r : List ClD} (c i : Nat) (hr : Hds T G X fe hds r) (hx : T.exs[c]? = some (x, some fld) := by rfl) (hsub : T.sub[c]? = some [c] := by rfl) (hi : X.N[i]? = some n := by rfl) (hln : X.env.kindOf n = some .local := by rfl) (hv : Vis X.env.scope n := by first | exact Or.inl rfl | exact Or.inr (Or.inl rfl) | exact Or.inr (Or.inr rfl))
    (hg : Gl X x := by rfl) (hdb : (x == ("__debug__" : Str)) = false := by decide) (hd : (n == ("__debug__" : Str)) = false := by decide) (hcd : (n == ("__classdict__" : Str)) = false := by decide) (hb : attributeBase (.Name n q1) fld X.env (eval (.Name n q1) X.env) = eval (.Name n q1) X.env := by rfl) :
    Hds T G X fe (.ExceptHandler (some (.Name x p)) (some n) [.Return (some (.Attribute (.Name n q1) fld q2)) pos] pos' :: hds) (.field (T.of c) i :: r) := by
  obtain ⟨C, hC, hm, hk, hs, ht, hxf, T1, T2, hno, _⟩ := h.tx.ex c x (some fld) hx
  obtain ⟨l, h1, h2⟩ := hr
  subst hxf
  refine ⟨_, .as_ ⟨hg, hdb, .inl hm⟩ hi hln (fun a oe cls d pn hz hf => field_ok T2 hno hz hf hi hv hd hcd hb) h1, .field (fun c' C' hc' => h.tx.exm c C c' C' hC hc') (fun c' hc' => ?_) hC h2⟩
  have e : T.sub.getD c [] = [c] := by rw [List.getD_eq_getElem?_getD, hsub]; rfl
  unfold Tx.of at hc'
  rw [e] at hc'
  simpa using hc'
end OkS
end
end Mn
set_option Elab.async false
set_option linter.all false
set_option maxRecDepth 100000
set_option maxHeartbeats 1000000
/-! Mn20: all defs of a text at once; the law's walk. -/
namespace Mn
open PySem L2 PySem.Spec PyProof.Rows
/-- a def: its name, its statement, its slots (np parameters first), what it does -/
structure Dn where
  nm : Str
  st : Stmt
  np : Nat
  N : List Str
  den : DenS
/-- what the defs do, n calls deep -/
def run (ds : List Dn) : Nat → FE
  | 0 => fun _ _ _ => .bad
  | n + 1 => fun j => match ds[j]? with
    | some d => fun vs m => gcO m (bodyD d.np d.N.length d.den (run ds n) vs m)
    | none => fun _ _ => .bad
theorem run_at {ds : List Dn} {j n : Nat} {d : Dn} (h : ds[j]? = some d) : run ds (n + 1) j = fun vs m => gcO m (bodyD d.np d.N.length d.den (run ds n) vs m) := by
  simp only [run, h]
theorem spF_gc {G : Gx} {d : List D → Mem → Out D} (vs : List V) (H : Hp) (Q : VK) (E : XK) (h : spF G (fun vs m => gcO m (d vs m)) vs H Q E) : spF G d vs H Q E := by
  obtain ⟨β, m, ds, rp, rv, g⟩ := h
  exact ⟨β, m, ds, rp, rv, GoodE.gc rp g⟩
/-- the body of the def d is what d says -/
def BodyOk (T : Tx) (d : Dn) : Prop := ∀ (G : Gx) (fe : FE) (k : Nat) (P : Program) (w : World) (K : PySem.W.Frag) (mg : Str → Option Value) (base : Heap) (f : Addr) (cdv : Value) (A : Around) (outer : List PySem.Env) (s : Shared) (H : Hp) (E : XK),
  OkS T G (cxOf (L2.CX P w) P w K mg base d.N d.nm (defScope d.st) f cdv A outer s H E) (fun c d _ H => E c d H) fe k →
    PSs (cxOf (L2.CX P w) P w K mg base d.N d.nm (defScope d.st) f cdv A outer s H E) (defBody d.st) (tS G (fun c d _ H => E c d H) fe d.den)
/-- a def's text: its scope, its body -/
structure DefOk (T : Tx) (d : Dn) : Prop where
  np : d.np ≤ d.N.length
  sc : FnScope d.N (d.N.take d.np) (defScope d.st)
  body : BodyOk T d
/-- a def as it stands behind the top -/
structure DefAt (K : PySem.W.Frag) (mg : Str → Option Value) (d : Dn) (f : Addr) : Prop where
  gl : mg d.nm = some (.ref f)
  ex : ∃ fd, Fun K d.nm d.nm d.st f fd ∧ ∀ us : List Value, us.length = (d.N.take d.np).length → bindArgs fd ⟨us, []⟩ = pure ((d.N.take d.np).zip us)
section
variable {T : Tx} {ds : List Dn} {G : Gx} {P : Program} {w : World} {K : PySem.W.Frag} {mg : Str → Option Value} {base : Heap} {n j : Nat} {d : Dn} {f : Addr} {fd : FuncData}
theorem def_run (hG : G.P = P ∧ G.w = w ∧ G.K = K) (tx : TxOk G K mg T) (D : DefOk T d) (hj : ds[j]? = some d) (hF : Fun K d.nm d.nm d.st f fd) (F : Fns G P w K mg base (n + 2) (run ds n)) : FnOk P w K mg base (L2.CX P w) (n + 3) f fd (d.N.take d.np) (spF G (run ds (n + 1) j)) := by
  have e : (d.N.take d.np).length = d.np := by rw [List.length_take]; exact Nat.min_eq_left D.np
  have q := body_ok (fe := run ds n) (den := d.den) (k := n + 2) (P := P) (w := w) (K := K) (mg := mg) (base := base) (G := G) hF D.sc fun cdv A outer s H E hr =>
    D.body G (run ds n) n P w K mg base f cdv A outer s H E (Ok.body hG hr F tx D.sc.nd)
  rw [run_at hj]
  rw [e] at q
  exact q.imp spF_gc
theorem fns_run (hG : G.P = P ∧ G.w = w ∧ G.K = K) (tx : TxOk G K mg T) (hd : ∀ (j : Nat) (d : Dn), ds[j]? = some d → DefOk T d)
    (hf : ∀ j f, G.fa j = some f → ∃ d, ds[j]? = some d ∧ DefAt K mg d f) (base : Heap) : ∀ n, Fns G P w K mg base (n + 2) (run ds n)
  | 0 => fun j f h => by
    obtain ⟨d, hj, hgl, fd, hF, hB⟩ := hf j f h
    refine ⟨fd, _, hF.okX (k := 1) (hd j d hj).sc (fun vs H Q E h => ?_) (fun cdv A outer s H vs Q E hr h => ?_), hF.kp, .all hB⟩
    · obtain ⟨β, m, ds, rp, rv, g⟩ := h
      exact g.elim
    · obtain ⟨β, m, ds, rp, rv, g⟩ := h
      exact g.elim
  | n + 1 => fun j f h => by
    obtain ⟨d, hj, hgl, fd, hF, hB⟩ := hf j f h
    exact ⟨fd, d.N.take d.np, def_run hG tx (hd j d hj) hj hF (fns_run hG tx hd hf base n), hF.kp, .all hB⟩
end
theorem FzL.only {K : PySem.W.Frag} {H : Hp} {a : Addr} {xs : List V} (hO : Only H) (h : SqL K H a xs) : FzL K H a xs := by
  rcases h with (h | ⟨o, h⟩) | h
  · rcases hO a with q | ⟨o, ys, q⟩
    · rw [q] at h; cases h
    · rw [q] at h; cases h
  · exact .inl ⟨o, h⟩
  · exact .inr h
/-- what is wanted of the law's def -/
def spLaw (K : PySem.W.Frag) : Sp := fun vs H Q _ => ∃ (a : Addr) (ns : List Int), vs = [.ref a] ∧ FzL K H a (ns.map V.int) ∧ ns.length ≤ 63 ∧ ∀ H', Q (.bl true) H'
theorem rvs_ints {G : Gx} {H : Hp} {β : List Pl} : ∀ (ns : List Int), RVs G H β (ns.map V.int) (ns.map D.int)
  | [] => RVs.nil
  | n :: ns => RVs.cons (by simp [RV]) (rvs_ints ns)
theorem Rp.empty {G : Gx} {H : Hp} : Rp G H [] [] := ⟨rfl, by simp, by simp⟩
theorem spLaw_of {G : Gx} {d : List D → Mem → Out D} (hlaw : ∀ ns : List Int, ns.length ≤ 63 → ∃ m', d [.seq (ns.map D.int)] [] = .ok (.bl true) m') (vs : List V) (H : Hp) (Q : VK) (E : XK) (h : spLaw G.K vs H Q E) : spF G d vs H Q E := by
  obtain ⟨a, ns, rfl, hz, hl, hq⟩ := h
  obtain ⟨m', e⟩ := hlaw ns hl
  refine ⟨[], [], [.seq (ns.map D.int)], Rp.empty, RVs.one (by simp only [RV]; exact ⟨a, _, rfl, hz, rvs_ints ns⟩), ?_⟩
  rw [e]
  intro u β' H' x r q
  simp only [RV] at q
  subst q
  exact hq _
/-- behind the top: a numbering of the defs and classes -/
def TopOk (T : Tx) (ds : List Dn) (P : Program) (w : World) (K : PySem.W.Frag) (mg : Str → Option Value) : Prop := ∃ G : Gx, (G.P = P ∧ G.w = w ∧ G.K = K) ∧ TxOk G K mg T ∧ (∀ (j : Nat) (d : Dn), ds[j]? = some d → ∃ f, G.fa j = some f) ∧ ∀ j f, G.fa j = some f → ∃ d, ds[j]? = some d ∧ DefAt K mg d f
theorem law_fn {T : Tx} {ds : List Dn} {P : Program} {w : World} {K : PySem.W.Frag} {mg : Str → Option Value} {n j : Nat} {d : Dn} {fa : Addr} {x : Str} (hd : ∀ (j : Nat) (d : Dn), ds[j]? = some d → DefOk T d) (top : TopOk T ds P w K mg) (hj : ds[j]? = some d) (hfa : mg d.nm = some (.ref fa)) (hp : d.N.take d.np = [x])
    (hlaw : ∀ ns : List Int, ns.length ≤ 63 → ∃ m', run ds (n + 1) j [.seq (ns.map D.int)] [] = .ok (.bl true) m') :
    ∃ fd : FuncData, (∀ (s : Shared) (u : Value), BindsTo s fd ⟨[u], []⟩ [(x, u)]) ∧ ∀ base : Heap, FnOk P w K mg base (L2.CX P w) (n + 3) fa fd [x] (spLaw K) := by
  obtain ⟨G, hG, tx, hall, hback⟩ := top
  obtain ⟨f, hf⟩ := hall j d hj
  obtain ⟨d', hj', D⟩ := hback j f hf
  rw [hj] at hj'
  cases hj'
  have e := D.gl
  rw [hfa] at e
  cases e
  obtain ⟨fd, hF, hB⟩ := D.ex
  rw [hp] at hB
  refine ⟨fd, fun s u => .of_eq (hB [u] rfl), fun base => ?_⟩
  have q := def_run (base := base) hG tx (hd j d hj) hj hF (fns_run hG tx hd hback base n)
  rw [hp] at q
  obtain ⟨_, _, rfl⟩ := hG
  exact q.imp (spLaw_of hlaw)
/-- THE WALK of a law -/
theorem walk {l : PySem.W.OpenLaw} {q : Program} {loose : List Str} {XP : (Str → Option Value) → Heap → Prop} {YP : World → Heap → Prop} {dr : DefRec} {K : Params → PySem.W.Frag} {T : Tx} {ds : List Dn} {n j : Nat} {d : Dn} {x : Str} (hn : l.most = some 63) (hdf : dr.params.defaults = []) (hr : Room (n + 3) callerA)
    (hY : ∀ (w : World) (h : Heap), YP w h → (K w.params).In h) (hd : ∀ (j : Nat) (d : Dn), ds[j]? = some d → DefOk T d) (hj : ds[j]? = some d) (hnm : d.nm = dr.name) (hp : d.N.take d.np = [x])
    (F : ∀ (w : World) (mg : Str → Option Value) (h : Heap), (K w.params).In h → h.Ns mainGlobals mg → TopOk T ds l.prog w (K w.params) mg)
    (hlaw : ∀ ns : List Int, ns.length ≤ 63 → ∃ m', run ds (n + 1) j [.seq (ns.map D.int)] [] = .ok (.bl true) m') :
    PySem.W.WalkO q loose XP YP l.row.toRowW dr [] (fun f vs => PySem.call f vs) :=
  L2.walk_of (n := 63) (k := n + 3) (x := x) (CX := fun w => L2.CX l.prog w) (sp := fun w => spLaw (K w.params)) hn (by decide) hdf hr hY
    (fun w mg fa h KX G hmg => by
      obtain ⟨fd, h1, h2⟩ := law_fn hd (F w mg h KX G) hj (by rw [hnm]; exact hmg) hp hlaw
      exact ⟨fd, h1, fun base _ _ => h2 base⟩)
    (fun _ _ a ns hl hO hS => ⟨a, ns, rfl, FzL.only hO hS, hl, fun _ => rfl⟩) (fun w H s e s' z => by
      obtain ⟨_, _, _, _, _, _, _, _, _, _, _, _, z⟩ := z
      exact z)
/-! ### what the top has written, row by row -/
def AllL {α : Type} (p : α → Prop) : List α → Prop
  | [] => True
  | a :: l => p a ∧ AllL p l
def AllZ {α β : Type} (p : α → β → Prop) : List α → List β → Prop
  | [], [] => True
  | a :: l, b :: r => p a b ∧ AllZ p l r
  | _, _ => False
theorem AllL.get {α : Type} {p : α → Prop} : ∀ {l : List α} {i : Nat} {a : α}, AllL p l → l[i]? = some a → p a
  | [], i, a, _, h => by simp at h
  | b :: l, 0, a, q, h => by
    simp only [List.getElem?_cons_zero, Option.some.injEq] at h
    subst h
    exact q.1
  | b :: l, i + 1, a, q, h => AllL.get (i := i) q.2 (by simpa using h)
theorem AllZ.fwd {α β : Type} {p : α → β → Prop} : ∀ {l : List α} {r : List β} {i : Nat} {a : α}, AllZ p l r → l[i]? = some a → ∃ b, r[i]? = some b ∧ p a b
  | [], _, i, a, _, h => by simp at h
  | a' :: l, [], i, a, q, h => q.elim
  | a' :: l, b :: r, 0, a, q, h => by
    simp only [List.getElem?_cons_zero, Option.some.injEq] at h
    subst h
    exact ⟨b, rfl, q.1⟩
  | a' :: l, b :: r, i + 1, a, q, h => by
    obtain ⟨b', e, z⟩ := AllZ.fwd (i := i) q.2 (by simpa using h)
    exact ⟨b', by simpa using e, z⟩
theorem AllZ.bwd {α β : Type} {p : α → β → Prop} : ∀ {l : List α} {r : List β} {i : Nat} {b : β}, AllZ p l r → r[i]? = some b → ∃ a, l[i]? = some a ∧ p a b
  | [], [], i, a, _, h => by simp at h
  | [], b' :: r, i, a, q, h => q.elim
  | a' :: l, [], i, a, q, h => q.elim
  | a' :: l, b' :: r, 0, b, q, h => by
    simp only [List.getElem?_cons_zero, Option.some.injEq] at h
    subst h
    exact ⟨a', rfl, q.1⟩
  | a' :: l, b' :: r, i + 1, b, q, h => by
    obtain ⟨b', e, z⟩ := AllZ.bwd (i := i) q.2 (by simpa using h)
    exact ⟨b', by simpa using e, z⟩
/-- the parameters take what is given -/
def BindOk (d : Dn) : Prop := ∀ (kV doc pm : Value) (an : Option Addr) (cdv ct : Value) (us : List Value), us.length = (d.N.take d.np).length → bindArgs (PySem.W.fnOf d.nm d.nm (defArgs d.st) (defBody d.st) (defScope d.st) .none kV doc pm an cdv ct) ⟨us, []⟩ = pure ((d.N.take d.np).zip us)
def AllI {α : Type} (p : α → Nat → Prop) : List α → Nat → Prop
  | [], _ => True
  | a :: l, i => p a i ∧ AllI p l (i + 1)
theorem AllI.get {α : Type} {p : α → Nat → Prop} : ∀ {l : List α} {k i : Nat} {a : α}, AllI p l k → l[i]? = some a → p a (k + i)
  | [], k, i, a, _, h => by simp at h
  | b :: l, k, 0, a, q, h => by
    simp only [List.getElem?_cons_zero, Option.some.injEq] at h
    subst h
    exact q.1
  | b :: l, k, i + 1, a, q, h => by
    have := AllI.get (i := i) q.2 (by simpa using h)
    rwa [Nat.add_right_comm] at this
section
variable {K : PySem.W.Frag} {h : Heap} {mg : Str → Option Value}
theorem DefAt.of {nm : Str} {st : Stmt} {np : Nat} {N : List Str} {den : DenS} {f : Addr} {oc : Value} {od an : Option Addr} {osl : Array (Option Value)} {kV doc pm cdv ct : Value} (X : K.In h) (G : h.Ns mainGlobals mg)
    (b : BindOk ⟨nm, st, np, N, den⟩)
    (a : PySem.W.nsIn K mainGlobals nm = some (some (.ref f))) (l : K.lookup f = some ⟨oc, od, .func (PySem.W.fnOf nm nm (defArgs st) (defBody st) (defScope st) .none kV doc pm an cdv ct), osl⟩) (c : PySem.W.codeIn K cdv nm = true) (k : PySem.W.keepIn K (.ref f) = true) :
    DefAt K mg ⟨nm, st, np, N, den⟩ f := ⟨PySem.W.mg_of X G a, _, fun_mk l c k, fun us hl => b _ _ _ _ _ _ us hl⟩
/-- a constant as it stands -/
def CnAt (K : PySem.W.Frag) (mg : Str → Option Value) (p : Str × D) : Prop := ∃ u, mg p.1 = some u ∧ CD K u p.2
theorem CnAt.of {x : Str} {d : D} {u : Value} (X : K.In h) (G : h.Ns mainGlobals mg) (a : PySem.W.nsIn K mainGlobals x = some (some u)) (c : CD K u d) : CnAt K mg (x, d) := ⟨u, PySem.W.mg_of X G a, c⟩
/-- an error's class as it stands, at C -/
def ExAt (K : PySem.W.Frag) (mg : Str → Option Value) (p : Str × Option Str) (C : Addr) : Prop := mg p.1 = some (.ref C) ∧ PySem.W.keepIn K (.ref C) = true ∧ PySem.W.subIn K (.ref C) (.type "BaseException") = some true ∧ PySem.W.typeIn K (.ref C) = some (.type "type") ∧
  (match p.2 with
  | none => PySem.W.excIn K C [.type "ValueError", .type "Exception", .type "BaseException", .type "object"] "ValueError.__new__" = true
  | some f => OexC K C ∧ XfC K C ∧ PySem.W.findIn K (.ref C) f = some none ∧ ∃ fI fd, PySem.W.findIn K (.ref C) "__init__" = some (some (.ref fI)) ∧ PySem.W.typeIn K (.ref fI) = some (.type "function") ∧ Binds K fd ["self", "word"] [] ∧
    ∀ (P : Program) (w : World) (mg : Str → Option Value) (base : Heap), FnOk P w K mg base (L2.CX P w) 1 fI fd ["self", "word"] (spInit K f))
theorem ExAt.plain {x : Str} {C : Addr} (X : K.In h) (G : h.Ns mainGlobals mg) (a : PySem.W.nsIn K mainGlobals x = some (some (.ref C))) (k : PySem.W.keepIn K (.ref C) = true) (s : PySem.W.subIn K (.ref C) (.type "BaseException") = some true) (t : PySem.W.typeIn K (.ref C) = some (.type "type"))
    (q : PySem.W.excIn K C [.type "ValueError", .type "Exception", .type "BaseException", .type "object"] "ValueError.__new__" = true) : ExAt K mg (x, none) C := ⟨PySem.W.mg_of X G a, k, s, t, q⟩
/-- an error's class with __init__(self, word): self.f = word -/
theorem ExAt.init {x q f : Str} {C fI : Addr} {st : Stmt} {nm qn : Str} {N : Addr} {bs bm : List Value} {sn : List Str} {sub : List Value} {ab : Bool} {col : Option Bool} {dd : Option Addr} {m0 m1 m2 m3 m5 : Option Value} {oc : Value} {od an : Option Addr} {osl : Array (Option Value)} {kV doc pm cdv ct : Value} {q1 q2 q3 q4 : Pos}
    (X : K.In h) (G : h.Ns mainGlobals mg) (S : FnScope ["self", "word"] ["self", "word"] (defScope st)) (hb : defBody st = [.Assign [.Attribute (.Name "self" q1) f q2] (.Name "word" q3) q4])
    (b : ∀ (kV doc pm : Value) (an : Option Addr) (cdv ct : Value) (us : List Value), us.length = (["self", "word"] : List Str).length → bindArgs (PySem.W.fnOf "__init__" q (defArgs st) (defBody st) (defScope st) .none kV doc pm an cdv ct) ⟨us, []⟩ = pure ((["self", "word"] : List Str).zip us))
    (a : PySem.W.nsIn K mainGlobals x = some (some (.ref C))) (k : PySem.W.keepIn K (.ref C) = true) (s : PySem.W.subIn K (.ref C) (.type "BaseException") = some true) (t : PySem.W.typeIn K (.ref C) = some (.type "type"))
    (xL : K.lookup C = some (excClassObj nm qn C N bs bm true sn sub ab col dd m0 m1 m2 m3 m5 "ValueError.__new__")) (hbm : PySem.HandSPX.refsVE bm = true) (sa : PySem.W.findIn K (.ref C) "__setattr__" = some (some (.builtin "object.__setattr__")))
    (ga : PySem.W.findIn K (.ref C) "__getattribute__" = some (some (.builtin "BaseException.__getattribute__"))) (gg : PySem.W.findIn K (.ref C) "__getattr__" = some none) (hd : PySem.W.hasDictIn K C = true) (nb : PySem.W.findIn K (.ref C) f = some none)
    (a1 : PySem.W.findIn K (.ref C) "__init__" = some (some (.ref fI))) (t1 : PySem.W.typeIn K (.ref fI) = some (.type "function")) (l1 : K.lookup fI = some ⟨oc, od, .func (PySem.W.fnOf "__init__" q (defArgs st) (defBody st) (defScope st) .none kV doc pm an cdv ct), osl⟩) (c1 : PySem.W.codeIn K cdv q = true) (k1 : PySem.W.keepIn K (.ref fI) = true) : ExAt K mg (x, some f) C := by
  refine ⟨PySem.W.mg_of X G a, k, s, t, ⟨⟨_, _, _, _, _, _, _, _, _, _, _, _, _, _, _, xL, hbm⟩, sa, s, t, k⟩, ⟨ga, gg, s, hd⟩, nb, fI, _, a1, t1, .all (b _ _ _ _ _ _), fun P w mg base => init_ok (fun_mk l1 c1 k1) S hb⟩
theorem exm_of {C C' : Addr} {b c : Bool} (h1 : PySem.W.subIn K (.ref C) (.type "BaseException") = some true) (h2 : PySem.W.isClsIn K C = true) (h3 : PySem.W.typeIn K (.ref C) = some (.type "type")) (h4 : PySem.W.subIn K (.ref C') (.ref C) = some b) (e : b = c) :
    PySem.W.exmOne K (.ref C') (.ref C) = some c := by
  subst e
  have e1 : (PySem.W.subIn K (.ref C) (.type "BaseException") == some true) = true := by rw [h1] <;> rfl
  have e2 : ((PySem.W.clsIn K C).isSome && PySem.W.typeIn K (.ref C) == some (.type "type")) = true := by
    have h2' : (PySem.W.clsIn K C).isSome = true := h2
    rw [h2', h3] <;> rfl
  show (if (PySem.W.subIn K (.ref C) (.type "BaseException") == some true) = true then (if ((PySem.W.clsIn K C).isSome && PySem.W.typeIn K (.ref C) == some (.type "type")) = true then PySem.W.subIn K (.ref C') (.ref C) else none) else none) = some b
  rw [if_pos e1, if_pos e2, h4]
theorem top_mk {T : Tx} {ds : List Dn} {P : Program} {w : World} (fas cas : List Addr) (hn : T.fns = ds.map (·.nm)) (hd : AllZ (DefAt K mg) ds fas) (hb : AllL (fun x => mg x = none) T.bls) (hc : AllL (CnAt K mg) T.cns) (he : AllZ (ExAt K mg) T.exs cas)
    (hs : AllZ (fun C (r : List Nat) => AllI (fun C' c' => PySem.W.exmOne K (.ref C') (.ref C) = some (r.contains c')) cas 0) cas T.sub) : TopOk T ds P w K mg := by
  refine ⟨⟨P, w, K, fun j => fas[j]?, fun c => cas[c]?, fun c => match T.exs[c]? with
    | some (_, some f) => f
    | _ => ""⟩, ⟨rfl, rfl, rfl⟩, ⟨fun j x h => ?_, fun j x h => hb.get h, fun i x d h => hc.get h, fun c x f h => ?_, fun c C c' C' h1 h2 => ?_⟩, fun j d h => ?_, fun j f h => hd.bwd h⟩
  · rw [hn, List.getElem?_map] at h
    obtain ⟨d, h1, rfl⟩ := Option.map_eq_some_iff.mp h
    obtain ⟨f, h2, D⟩ := hd.fwd h1
    exact ⟨f, h2, D.gl⟩
  · obtain ⟨C, h1, e1, e2, e3, e4, e5⟩ := he.fwd h
    refine ⟨C, h1, e1, e2, e3, e4, ?_⟩
    cases f with
    | none => exact e5
    | some f =>
      refine ⟨?_, e5⟩
      show (match T.exs[c]? with
        | some (_, some f) => f
        | _ => "") = f
      rw [h]
  · obtain ⟨r, h3, h4⟩ := hs.fwd h1
    have h6 := h4.get h2
    rw [Nat.zero_add] at h6
    rw [h6]
    unfold Tx.of
    rw [List.getD_eq_getElem?_getD, h3]
    rfl
  · obtain ⟨f, h2, _⟩ := hd.fwd h
    exact ⟨f, h2⟩
end
end Mn
set_option Elab.async false
set_option linter.all false
set_option maxRecDepth 100000
set_option maxHeartbeats 1000000
/-! Mn21: dict(pairs). -/
namespace Mn
open PySem L2 PySem.Spec PyProof.Rows
def pairsD : List D → Option (List (D × D))
  | [] => some []
  | .tup [k, v] :: r => (pairsD r).map fun qs => (k, v) :: qs
  | _ :: _ => none
theorem pairsD_is : ∀ {xs : List D} {qs : List (D × D)}, pairsD xs = some qs → xs = qs.map pairD
  | [], qs, h => by simp only [pairsD, Option.some.injEq] at h; subst h; rfl
  | x :: r, qs, h => by
    unfold pairsD at h
    split at h
    · rename_i e; cases e
    · rename_i k v r' e
      simp only [List.cons.injEq] at e
      obtain ⟨rfl, rfl⟩ := e
      obtain ⟨qs', h1, rfl⟩ := Option.map_eq_some_iff.mp h
      rw [pairsD_is h1]
      rfl
    · cases h
/-- dict(pairs), of a list or a tuple -/
def bDictP : OpN
  | [d], m => match itemsM m d with
    | some xs => match pairsD xs with
      | some qs => match dictP [] qs with
        | some kvs => if qs.length ≤ sizeLine ∧ kvs.length ≤ sizeLine then some (.loc m.length, m ++ [.dict kvs false]) else none
        | none => none
      | none => none
    | none => none
  | _, _ => none
section
variable {G : Gx} {X : Cx} {pins : List (Addr × Obj)} {σ : L2.St} {H : Hp} {s : Shared} {β : List Pl} {a : Addr}
theorem FzT.plain {xs : List V} (I : L2.Inv X pins σ H s) (h : FzT X.K H a xs) : ∃ its : List Value, Vals xs its ∧ PlainSeq "tuple" s.heap a its.toArray ∧ xs.length ≤ sizeLine := by
  rcases h with ⟨o, h, hd⟩ | ⟨o, its, n, hk, hc, hd, hs, hz, r⟩
  · obtain ⟨hg, hz, its, r, o', ho', hc, n, hdat⟩ := I.hok a _ h
    rw [hg] at ho'
    cases ho'
    exact ⟨its, r, ⟨o, n, hg, hc, hd, hdat⟩, hz⟩
  · refine ⟨its.toList, r, ⟨o, n, I.kIn a o hk, hc, hd, by simpa using hs⟩, ?_⟩
    have e := r.length
    simp only [Array.length_toList] at e
    omega
theorem vals_two {v1 v2 : V} {its : List Value} (h : Vals [v1, v2] its) : ∃ u1 u2, its = [u1, u2] ∧ RelV v1 u1 ∧ RelV v2 u2 := by
  cases h with
  | cons r t =>
    cases t with
    | cons r' t' =>
      cases t'
      exact ⟨_, _, rfl, r, r'⟩
theorem rvs_two {k v : D} {xs : List V} (h : RVs G H β xs [k, v]) : ∃ v1 v2, xs = [v1, v2] ∧ RV G H β v1 k ∧ RV G H β v2 v := by
  simp only [RVs] at h
  obtain ⟨x, r, rfl, h1, y, r', rfl, h2, rfl⟩ := h
  exact ⟨x, y, rfl, h1, h2⟩
theorem pairs_heap (on : On G X) (I : L2.Inv X pins σ H s) : ∀ (qs : List (D × D)) {zs : List V} {its : List Value}, RVs G H β zs (qs.map pairD) → Vals zs its →
    ∃ (Ts : List Addr) (ps : List (Value × Value)), its = Ts.map Value.ref ∧ Ts.length = qs.length ∧ ps.length = qs.length ∧ (∀ (j : Nat) (T : Addr) (k v : Value), Ts[j]? = some T → ps[j]? = some (k, v) → PairAt s.heap T k v) ∧ Paired (fun (p : Value × Value) (q : D × D) => RValue G H β p.1 q.1 ∧ RValue G H β p.2 q.2) ps qs
  | [], zs, its, h, hv => by
    simp only [List.map_nil, RVs] at h
    subst h
    cases hv
    exact ⟨[], [], rfl, rfl, rfl, fun j T k v e => by simp at e, .nil⟩
  | (k, v) :: qs, zs, its, h, hv => by
    simp only [List.map_cons] at h
    cases zs with
    | nil => simp [RVs] at h
    | cons z zs =>
      obtain ⟨h1, h2⟩ := h.uncons
      cases hv with
      | cons r t =>
        obtain ⟨Ts, ps, e1, e2, e3, e4, e5⟩ := pairs_heap on I qs h2 t
        simp only [pairD, RV] at h1
        obtain ⟨b, ys, rfl, hf, hy⟩ := h1
        cases r
        obtain ⟨v1, v2, rfl, q1, q2⟩ := rvs_two hy
        obtain ⟨ws, hw, ⟨o, n, g1, g2, g3, g4⟩, _⟩ := FzT.plain I (on.K ▸ hf)
        obtain ⟨u1, u2, rfl, r1, r2⟩ := vals_two hw
        refine ⟨b :: Ts, (u1, u2) :: ps, by rw [e1]; rfl, by simp [e2], by simp [e3], fun j T k' v' f1 f2 => ?_, .cons ⟨⟨v1, r1, q1⟩, ⟨v2, r2, q2⟩⟩ e5⟩
        cases j with
        | zero =>
          simp only [List.getElem?_cons_zero, Option.some.injEq, Prod.mk.injEq] at f1 f2
          obtain ⟨rfl, rfl⟩ := f2
          subst f1
          exact .inl ⟨o, g1, g2, n, g4⟩
        | succ j => exact e4 j T k' v' (by simpa using f1) (by simpa using f2)
theorem merge_M (on : On G X) : ∀ (qs : List (D × D)) {ps : List (Value × Value)} {acc' : List (L2.Key × Value)} {acc kvs : List (D × D)}, PM G H β acc' acc → (∀ q ∈ qs, (keyM q.1).isSome = true) → Paired (fun (p : Value × Value) (q : D × D) => RValue G H β p.1 q.1 ∧ RValue G H β p.2 q.2) ps qs → dictP acc qs = some kvs →
    ∃ ks : List (L2.Key × Value), ks.length = ps.length ∧ (∀ (i : Nat) (k v : Value), ps[i]? = some (k, v) → ∃ k', ks[i]? = some (k', v) ∧ (mixKind X.prog X.w).is k' k = true) ∧ PM G H β (merged acc' ks) kvs
  | [], ps, acc', acc, kvs, h, _, hp, hd => by
    cases hp
    simp only [dictP, Option.some.injEq] at hd
    subst hd
    exact ⟨[], rfl, fun i k v e => by simp at e, h⟩
  | (k, v) :: qs, ps, acc', acc, kvs, h, hk, hp, hd => by
    cases hp with
    | @cons p _ ps _ r t =>
      obtain ⟨pk, pv⟩ := p
      simp only [dictP] at hd
      split at hd
      · obtain ⟨k', ek⟩ := Option.isSome_iff_exists.mp (hk (k, v) (by simp))
        obtain ⟨⟨vk, rk1, rk2⟩, rv⟩ := r
        have yk := keyM_kV ek rk2
        subst yk
        obtain ⟨ks, g1, g2, g3⟩ := merge_M on qs (h.put ek rv) (fun q hq => hk q (by simp [hq])) t hd
        refine ⟨(k', pv) :: ks, by simp [g1], fun i a b e => ?_, g3⟩
        cases i with
        | zero =>
          simp only [List.getElem?_cons_zero, Option.some.injEq, Prod.mk.injEq] at e
          obtain ⟨rfl, rfl⟩ := e
          exact ⟨k', rfl, kV_is rk1⟩
        | succ i => exact g2 i a b (by simpa using e)
      · cases hd
theorem merge_N (on : On G X) (I : L2.Inv X pins σ H s) : ∀ (qs : List (D × D)) {ps : List (Value × Value)} {acc' : List (NestedKey × Addr × Value)} {acc kvs : List (D × D)}, PN G H β acc' acc → (∀ q ∈ qs, (keyT q.1).isSome = true) → Paired (fun (p : Value × Value) (q : D × D) => RValue G H β p.1 q.1 ∧ RValue G H β p.2 q.2) ps qs → dictP acc qs = some kvs →
    ∃ ks : List (NestedKey × Addr × Value), ks.length = ps.length ∧ (∀ (i : Nat) (k v : Value), ps[i]? = some (k, v) → ∃ k' b, ks[i]? = some (k', b, v) ∧ k = .ref b) ∧ (∀ x ∈ ks, (nestedKind X.prog X.w).is s.heap x.1 x.2.1) ∧ PN G H β (storedAllH acc' ks) kvs
  | [], ps, acc', acc, kvs, h, _, hp, hd => by
    cases hp
    simp only [dictP, Option.some.injEq] at hd
    subst hd
    exact ⟨[], rfl, fun i k v e => by simp at e, fun x hx => by simp at hx, h⟩
  | (k, v) :: qs, ps, acc', acc, kvs, h, hk, hp, hd => by
    cases hp with
    | @cons p _ ps _ r t =>
      obtain ⟨pk, pv⟩ := p
      simp only [dictP] at hd
      split at hd
      · obtain ⟨k', ek⟩ := Option.isSome_iff_exists.mp (hk (k, v) (by simp))
        obtain ⟨e1, e2, xs, e3⟩ := keyT_N ek
        have e3' : k = .tup xs := e3
        subst e3'
        obtain ⟨⟨vk, rk1, rk2⟩, rv⟩ := r
        have rk3 := rk2
        simp only [RV] at rk3
        obtain ⟨b, ys, rfl, _, _⟩ := rk3
        cases rk1
        have his : (nestedKind X.prog X.w).is s.heap k' b := ⟨nested_is on I _ _ _ _ e1 rk2 rfl, e2⟩
        obtain ⟨ks, g1, g2, g3, g4⟩ := merge_N on I qs (h.put e1 e2 rk2 rv) (fun q hq => hk q (by simp [hq])) t hd
        refine ⟨(k', b, pv) :: ks, by simp [g1], fun i a c e => ?_, fun x hx => ?_, g4⟩
        · cases i with
          | zero =>
            simp only [List.getElem?_cons_zero, Option.some.injEq, Prod.mk.injEq] at e
            obtain ⟨rfl, rfl⟩ := e
            exact ⟨k', b, rfl, rfl⟩
          | succ i => exact g2 i a c (by simpa using e)
        · rcases List.mem_cons.mp hx with rfl | hx
          · exact his
          · exact g3 x hx
      · cases hd
/-- stored pairs are of one kind of keys -/
theorem dPut_has {kvs : List (D × D)} {k v : D} : (∃ p ∈ dPut kvs k v, p.1 = k) ∧ ∀ p ∈ dPut kvs k v, p.1 = k ∨ ∃ q ∈ kvs, q.1 = p.1 := by
  unfold dPut
  split
  · rename_i h
    constructor
    · unfold dGet at h
      rw [Option.isSome_map] at h
      obtain ⟨q, hq⟩ := Option.isSome_iff_exists.mp h
      have h1 := List.mem_of_find?_eq_some hq
      have h2 := List.find?_some hq
      simp only [decide_eq_true_eq] at h2
      exact ⟨(q.1, v), List.mem_map.mpr ⟨q, h1, by rw [if_pos h2]⟩, h2⟩
    · intro p hp
      obtain ⟨q, hq, rfl⟩ := List.mem_map.mp hp
      refine .inr ⟨q, hq, ?_⟩
      split <;> rfl
  · constructor
    · exact ⟨(k, v), by simp, rfl⟩
    · intro p hp
      rcases List.mem_append.mp hp with hp | hp
      · exact .inr ⟨p, hp, rfl⟩
      · rw [List.mem_singleton.mp hp]; exact .inl rfl
theorem keyM_T {d : D} (h : (keyM d).isSome = true) : keyT d = none := by cases d <;> simp [keyM] at h <;> rfl
theorem kindOk_M {kvs : List (D × D)} {k : D} (h : kindOk kvs k = true) (hk : (keyM k).isSome = true) : ∀ p ∈ kvs, (keyM p.1).isSome = true := by
  unfold kindOk at h
  rw [keyM_T hk] at h
  simp only [hk, Bool.true_and, Option.isSome_none, Bool.false_and, Bool.or_false] at h
  exact List.all_eq_true.mp h
theorem kindOk_T {kvs : List (D × D)} {k : D} (h : kindOk kvs k = true) (hk : (keyT k).isSome = true) : ∀ p ∈ kvs, (keyT p.1).isSome = true := by
  have hm : keyM k = none := by
    cases e : keyM k with
    | none => rfl
    | some z => rw [keyM_T (by rw [e]; rfl)] at hk; cases hk
  unfold kindOk at h
  rw [hm] at h
  simp only [hk, Bool.true_and, Option.isSome_none, Bool.false_and, Bool.false_or] at h
  exact List.all_eq_true.mp h
theorem kindOk_or {kvs : List (D × D)} {k : D} (h : kindOk kvs k = true) : (keyM k).isSome = true ∨ (keyT k).isSome = true := by
  unfold kindOk at h
  simp only [Bool.or_eq_true, Bool.and_eq_true] at h
  exact h.imp (·.1) (·.1)
theorem kinds_of : ∀ (qs : List (D × D)) {acc kvs : List (D × D)} {x : D × D}, x ∈ acc → dictP acc qs = some kvs → ((keyM x.1).isSome = true → ∀ q ∈ qs, (keyM q.1).isSome = true) ∧ ((keyT x.1).isSome = true → ∀ q ∈ qs, (keyT q.1).isSome = true)
  | [], acc, kvs, x, _, _ => ⟨fun _ q h => by simp at h, fun _ q h => by simp at h⟩
  | (k, v) :: qs, acc, kvs, x, hx, h => by
    simp only [dictP] at h
    split at h
    · rename_i c
      obtain ⟨⟨p, hp, e⟩, _⟩ := dPut_has (kvs := acc) (k := k) (v := v)
      have ih := kinds_of qs hp h
      rw [e] at ih
      constructor
      · intro hm q hq
        have hk : (keyM k).isSome = true := by
          rcases kindOk_or c.1 with z | z
          · exact z
          · have := kindOk_T c.1 z x hx
            rw [keyM_T hm] at this
            cases this
        rcases List.mem_cons.mp hq with rfl | hq
        · exact hk
        · exact ih.1 hk q hq
      · intro ht q hq
        have hk : (keyT k).isSome = true := by
          rcases kindOk_or c.1 with z | z
          · have := keyM_T (kindOk_M c.1 z x hx)
            rw [this] at ht
            cases ht
          · exact z
        rcases List.mem_cons.mp hq with rfl | hq
        · exact hk
        · exact ih.2 hk q hq
    · cases h
theorem dictP_kinds {qs kvs : List (D × D)} (h : dictP [] qs = some kvs) : (∀ q ∈ qs, (keyM q.1).isSome = true) ∨ ∀ q ∈ qs, (keyT q.1).isSome = true := by
  cases qs with
  | nil => exact .inl fun q h => by simp at h
  | cons q qs =>
    obtain ⟨k, v⟩ := q
    simp only [dictP] at h
    split at h
    · rename_i c
      obtain ⟨⟨p, hp, e⟩, _⟩ := dPut_has (kvs := []) (k := k) (v := v)
      have ih := kinds_of qs hp h
      rw [e] at ih
      rcases kindOk_or c.1 with z | z
      · exact .inl fun q hq => by
          rcases List.mem_cons.mp hq with rfl | hq
          · exact z
          · exact ih.1 z q hq
      · exact .inr fun q hq => by
          rcases List.mem_cons.mp hq with rfl | hq
          · exact z
          · exact ih.2 z q hq
    · cases h
theorem Post.dict {m : Mem} {kvs : List (D × D)} {es : Array DictEntry} {ep : Nat} {Q : VK} {p : Addr} (h : Post G H β (m ++ [.dict kvs false]) (.loc m.length) Q) (r : Rp G H β m) (hp : H p = none) (hs : (p == sysModules) = false) (hl : kvs.length ≤ sizeLine) (e : EntM G H β es kvs ∨ EntN G H β es kvs) : Q (.ref p) (upd H p (dictO p es ep)) := by
  have l := Hle.upd (o := dictO p es ep) hp
  refine h _ (β ++ [(p, false)]) _ (Ext.alloc hp) (r.alloc hp rfl ⟨hs, hl, es, ep, upd_same, e.imp (fun z => z.mono l.tl ⟨_, rfl⟩) fun z => z.mono l.tl ⟨_, rfl⟩⟩) ?_
  simp only [RV]
  exact ⟨p, false, rfl, by rw [← r.len]; simp⟩
theorem bDictP_ok (on : On G X) (hc : X.calm = true) (hu : X.A.units + 64 < cLine) : CallR X (.type "dict") (rON G bDictP) := by
  intro pins s σ H xs us Q I r ⟨β, m, ds, rp, rv, h⟩
  unfold bDictP at h
  split at h
  · obtain ⟨v, rfl, q⟩ := rv.split1
    split at h
    · rename_i ys e
      split at h
      · rename_i qs ep
        split at h
        · rename_i kvs ed
          split at h
          · rename_i cz
            obtain ⟨hql, hkl⟩ := cz
            obtain ⟨a, zs, rfl, h1, h2⟩ := itemsM_sqF rp e q
            obtain ⟨u, rfl, ru⟩ := vals1 r
            cases ru
            have e2 := pairsD_is ep
            subst e2
            have hn : H s.heap.objs.size = none := I.hok.fresh (Nat.le_refl _)
            obtain ⟨its, T, hv, hP⟩ : ∃ (its : List Value) (T : String), Vals zs its ∧ ∀ (Ts : Nat → Addr) (ps : List (Value × Value)), PairItems s.heap its.toArray Ts ps → ∃ fp OK, PairArg X.prog X.w T a fp [] ps.length (PairRel ps) OK ∧ OK s.heap := by
              rcases h1 with h1 | h1
              · obtain ⟨its, hv, hp, _⟩ := I.list (on.K ▸ h1)
                exact ⟨its, "list", hv, fun Ts ps hi => ⟨_, _, PairArg.list a its.toArray Ts ps, hp, hi⟩⟩
              · obtain ⟨its, hv, hp, _⟩ := FzT.plain I (on.K ▸ h1)
                exact ⟨its, "tuple", hv, fun Ts ps hi => ⟨_, _, PairArg.tuple a its.toArray Ts ps, hp, hi⟩⟩
            obtain ⟨Ts, ps, t1, t2, t3, t4, t5⟩ := pairs_heap on I qs h2 hv
            subst t1
            obtain ⟨fp, OK, P, ok⟩ := hP (fun j => Ts.getD j 0) ps ⟨by simp [t2, t3], fun j k v hj => by
              have hjl := (List.getElem?_eq_some_iff.mp hj).1
              have hjt : j < Ts.length := by omega
              have hT : Ts[j]? = some Ts[j] := List.getElem?_eq_getElem hjt
              have eT : Ts.getD j 0 = Ts[j] := by simp [List.getD, hT]
              constructor
              · simp [hT]
              · show PairAt s.heap (Ts.getD j 0) k v
                rw [eT]; exact t4 j _ k v hT hj⟩
            rcases dictP_kinds ed with hM | hN
            · obtain ⟨ks, g1, g2, g3⟩ := merge_M on qs (acc' := []) .nil hM t5 ed
              refine call_dict_pairs (knd := mixKind X.prog X.w) (kvs := ks) P (I.ok.hd hc) ok ⟨g1, fun i k v hr => g2 i k v hr⟩ (by rw [t3]; exact hql) fun h' tk dd hk => ?_
              obtain ⟨o, es, ep, f1, f2, f3, f4, f5, f6⟩ := dd
              have hk' : ∀ b o, s.heap.get? b = some o → h'.get? b = some o := fun b o e => hk b o (by simp) e
              exact ⟨.ref _, upd H s.heap.objs.size (dictO s.heap.objs.size es ep), I.laid (t' := tk) hk' (Nat.le_refl _) (dictO_new ⟨o, f1, f2, f3⟩), rfl, Post.dict h rp hn (big_ne I) hkl (.inl ⟨_, by rw [← on.P, ← on.w]; exact f4, by rw [← on.P, ← on.w]; exact f5, f6, g3⟩)⟩
            · obtain ⟨ks, g1, g2, g3, g4⟩ := merge_N on I qs (acc' := []) .nil hN t5 ed
              refine call_dict_pairsH (knd := nestedKind X.prog X.w) (ps := ks) P (I.ok.hd hc) (by show X.A.units + 1 + 1 + 8 < cLine; omega) ok ⟨g1, fun i k v hr => g2 i k v hr⟩ (fun h' hk x hx => ?_) (by rw [t3]; exact hql) fun h' tk dd hk => ?_
              · exact nestedKind_stays.stays (fun b o _ _ e _ => hk b o (Nat.ne_of_lt (Heap.lt_size e)) (by simp) e) (g3 x hx)
              · obtain ⟨o, es, ep, f1, f2, f3, f4, _, f6⟩ := dd
                have hk' : ∀ b o, s.heap.get? b = some o → h'.get? b = some o := fun b o e => hk b o (by simp) e
                exact ⟨.ref _, upd H s.heap.objs.size (dictO s.heap.objs.size es ep), I.laid (t' := tk) hk' (Nat.le_refl _) (dictO_new ⟨o, f1, f2, f3⟩), rfl, Post.dict h rp hn (big_ne I) hkl (.inr ⟨_, by rw [← on.P, ← on.w]; exact f4, f6, g4⟩)⟩
          · exact h.elim
        · exact h.elim
      · exact h.elim
    · exact h.elim
  · exact h.elim
end
end Mn
set_option Elab.async false
set_option linter.all false
set_option maxRecDepth 100000
set_option maxHeartbeats 1000000
/-! Mn22: sorted(set(ints)). -/
namespace Mn
open PySem L2 PySem.Spec PyProof.Rows
/-- put into an ascending list, once -/
def insI (x : Int) : List Int → List Int
  | [] => [x]
  | y :: r => if x < y then x :: y :: r else if x = y then y :: r else y :: insI x r
def usort : List Int → List Int
  | [] => []
  | x :: r => insI x (usort r)
theorem insI_mem {x y : Int} : ∀ {l : List Int}, y ∈ insI x l ↔ y = x ∨ y ∈ l
  | [] => by simp [insI]
  | z :: r => by
    unfold insI
    split
    · simp
    · split
      · rename_i h; subst h; simp
      · simp only [List.mem_cons, insI_mem (l := r)]
        constructor
        · rintro (h | h | h) <;> simp [h]
        · rintro (h | h | h) <;> simp [h]
theorem insI_asc {x : Int} : ∀ {l : List Int}, l.Pairwise (· < ·) → (insI x l).Pairwise (· < ·)
  | [], _ => by simp [insI]
  | z :: r, h => by
    rw [List.pairwise_cons] at h
    unfold insI
    split
    · rename_i c
      refine List.pairwise_cons.mpr ⟨fun y hy => ?_, List.pairwise_cons.mpr h⟩
      rcases List.mem_cons.mp hy with rfl | hy
      · exact c
      · have := h.1 y hy
        omega
    · split
      · exact List.pairwise_cons.mpr h
      · refine List.pairwise_cons.mpr ⟨fun y hy => ?_, insI_asc h.2⟩
        rcases insI_mem.mp hy with rfl | hy
        · omega
        · exact h.1 y hy
theorem usort_mem {y : Int} : ∀ {l : List Int}, y ∈ usort l ↔ y ∈ l
  | [] => by simp [usort]
  | x :: r => by rw [usort, insI_mem, usort_mem, List.mem_cons]
theorem usort_asc : ∀ (l : List Int), (usort l).Pairwise (· < ·)
  | [] => .nil
  | x :: r => insI_asc (usort_asc r)
theorem insI_len {x : Int} : ∀ {l : List Int}, (insI x l).length ≤ l.length + 1
  | [] => by simp [insI]
  | z :: r => by
    unfold insI
    split
    · simp
    · split
      · simp
      · have := insI_len (x := x) (l := r)
        simp only [List.length_cons]
        omega
theorem usort_len : ∀ (l : List Int), (usort l).length ≤ l.length
  | [] => by simp [usort]
  | x :: r => by
    have h1 := usort_len r
    have h2 := insI_len (x := x) (l := usort r)
    simp only [usort, List.length_cons]
    omega
/-- ascending lists with the same members are the same -/
theorem ascI_unique : ∀ {xs ys : List Int}, xs.Pairwise (· < ·) → ys.Pairwise (· < ·) → (∀ k, k ∈ xs ↔ k ∈ ys) → xs = ys
  | [], [], _, _, _ => rfl
  | [], y :: r, _, _, h => absurd ((h y).mpr (by simp)) (by simp)
  | x :: r, [], _, _, h => absurd ((h x).mp (by simp)) (by simp)
  | x :: r, y :: s, hx, hy, h => by
    rw [List.pairwise_cons] at hx hy
    have e : x = y := by
      rcases List.mem_cons.mp ((h x).mp (by simp)) with e | hxs
      · exact e
      · rcases List.mem_cons.mp ((h y).mpr (by simp)) with e | hyr
        · exact e.symm
        · have := hx.1 y hyr
          have := hy.1 x hxs
          omega
    subst e
    rw [ascI_unique hx.2 hy.2 fun d => ⟨fun hd => by
      rcases List.mem_cons.mp ((h d).mp (by simp [hd])) with e | z
      · subst e
        have := hx.1 d hd
        omega
      · exact z, fun hd => by
      rcases List.mem_cons.mp ((h d).mpr (by simp [hd])) with e | z
      · subst e
        have := hy.1 d hd
        omega
      · exact z⟩]
/-- sorted(set(t)) of a tuple of fewer than 64 ints -/
def xSortSet (d : Den) : Den := fun fe ρ m => (d fe ρ m).bind fun x m1 => match x with
  | .tup ds => match intsD ds with
    | some ns => if ns.length < 64 then .ok (.loc m1.length) (m1 ++ [.lst ((usort ns).map D.int)]) else .bad
    | none => .bad
  | _ => .bad
section
variable {G : Gx} {X : Cx} {W : WX} {fe : FE} {d : Den}
def rSetI (K : PySem.W.Frag) (w : World) : List V → Hp → VK → Prop := fun vs H Q => ∃ (l : Addr) (ns : List Int), vs = [V.ref l] ∧ SqT K H l (ns.map V.int) ∧ ns.length ≤ 1000 ∧ ∀ (p : Addr) (c : Nat), c ≤ ns.length → H p = none → Q (.ref p) (upd H p (SetO w p (fun j => decide (j ∈ ns)) c))
theorem cr_setI (hc : X.calm = true) : CallR X (.type "set") (rSetI X.K X.w) := by
  intro pins s σ H xs us Q I r ⟨l, ns, e, hs, hl, h⟩
  subst e
  obtain ⟨u, rfl, ru⟩ := vals1 r
  cases ru
  obtain ⟨its, rv, pt, _⟩ := I.tuple hs
  have hi : IntsAre its.toArray.toList ns := ints_of_vals rv
  refine call_set_tupI ns (I.ok.hd hc) (show s.heap.IsTuple l its.toArray from pt) hi (by unfold scanBound; omega) fun h' tk c R1 hcn k => ?_
  exact ⟨.ref _, upd H s.heap.objs.size (SetO X.w s.heap.objs.size (fun j => decide (j ∈ ns)) c), I.laid (t' := tk) k (Nat.le_refl _) (setO_new R1), rfl, h _ c hcn (I.hok.fresh (Nat.le_refl _))⟩
theorem rvs_intsI {H : Hp} {β : List Pl} : ∀ (ns : List Int), RVs G H β (ns.map V.int) (ns.map D.int)
  | [] => RVs.nil
  | n :: ns => RVs.cons (by simp [RV]) (rvs_intsI ns)
theorem sortSet_red {σ : L2.St} {H : Hp} {Q : VK} (on : On G X) (h : tE G W fe (xSortSet d) σ H Q) : tCB (rSortedSet X.w) (tCons (tCB (rSetI X.K X.w) (tCons (tE G W fe d) tNil)) tNil) σ H Q := by
  obtain ⟨β, m, ρ, rp, rs, g⟩ := h
  refine ⟨β, m, ρ, rp, rs, (GoodO.mono (GoodO.bind (GoodE.iff.mp g)) fun x m1 H1 β1 e1 rp1 g1 u ru => ?_).e⟩
  cases x with
  | tup ds =>
    simp only at g1
    split at g1
    · rename_i ns en
      split at g1
      · rename_i hl
        simp only [RV] at ru
        obtain ⟨a, xs, rfl, hf, hx⟩ := ru
        have ex := intsD_vs en hx
        subst ex
        refine ⟨a, ns, rfl, on.K ▸ hf.sq, by omega, fun p c hcn hp => ?_⟩
        have l1 := Hle.upd (o := SetO X.w p (fun j => decide (j ∈ ns)) c) hp
        refine ⟨p, _, c, rfl, upd_same, by omega, fun ns' p' h1 h2 h3 hp' => ?_⟩
        have e2 : ns' = usort ns := ascI_unique h1 (usort_asc ns) fun k => by rw [h2, usort_mem, decide_eq_true_eq]
        subst e2
        have gp : PostO G H1 β1 Q (some (D.loc m1.length, m1 ++ [O.lst ((usort ns).map D.int)])) := GoodE.ofO (W := fun c d H' => W c d σ H') (r := some (D.loc m1.length, m1 ++ [O.lst ((usort ns).map D.int)])) g1.e
        exact Post.lst (PostO.le gp l1) (rp1.le l1) (rvs_intsI _) hp'
      · exact False.elim g1
    · exact False.elim g1
  | _ => exact False.elim g1
end
end Mn
set_option Elab.async false
set_option linter.all false
set_option maxRecDepth 100000
set_option maxHeartbeats 1000000
/-! Mn23: comprehensions with two fors. -/
namespace Mn
open PySem L2 PySem.Spec PyProof.Rows
def lc2Go (t1 : Env → Mem → Out Bool) (it2 : Env → Mem → Out Itr) (t2 : Env → Mem → Out Bool) (e : Env → Mem → Out D) (p1 p2 : Pat) (vs1 : List Nat) (w1 : Watch) (ρ : Env) : List D → List D → Mem → Out (List D)
  | [], acc, m => if watchOk w1 m = true then .ok acc m else .bad
  | x :: xs, acc, m => if watchOk w1 m = true then (match bindP p1 x ρ with
    | some ρ1 => (noX (t1 ρ1 m)).bind fun b m1 => if b = true then (noX (it2 ρ1 m1)).bind fun J m2 => (if J.lk = none then (noX (lcGo t2 e p2 J.w (wipeE ρ1 vs1) J.xs acc m2)).bind fun acc' m3 => lc2Go t1 it2 t2 e p1 p2 vs1 w1 ρ xs acc' m3 else .bad) else lc2Go t1 it2 t2 e p1 p2 vs1 w1 ρ xs acc m1
    | none => .bad) else .bad
/-- [e for p1 in it1 if t1 for p2 in it2 if t2] -/
def xLc2 (it1 : DenI) (p1 : Pat) (t1 : DenT) (it2 : DenI) (p2 : Pat) (t2 : DenT) (e : Den) (own vs1 : List Nat) : Den := fun fe ρ m => (it1 fe ρ m).bind fun I m1 => if I.lk = none then (lc2Go (t1 fe) (it2 fe) (t2 fe) (e fe) p1 p2 vs1 I.w (wipeE ρ own) I.xs [] m1).bind fun acc m2 => .ok (.loc m2.length) (m2 ++ [.lst acc]) else .bad
section
variable {G : Gx} {X : Cx} {W : WX} {fe : FE} {elt tg iter tg1 iter1 : Expr} {ifs ifs1 : List Expr} {scope : Scope} {own : List (Str × Nat)} {vs1 : List Nat} {pos spos : Pos} {it it1 : DenI} {p p1 : Pat} {dt dt1 : DenT} {de : Den}
theorem wipeRS {σ : L2.St} {ρ : Env} {H : Hp} {β : List Pl} (r : RS G H β σ ρ) (vs : List Nat) : RS G H β (L2.wipe σ vs) (wipeE ρ vs) := r.wipe vs
theorem lc2_red (on : On G X) (hs : ∀ i ∈ p.slots, i ∈ own.map (·.2)) (hs1 : ∀ i ∈ p1.slots, i ∈ vs1) {σ : L2.St} {H : Hp} {Q : VK} (h : tE G W fe (xLc2 it p dt it1 p1 dt1 de (own.map (·.2)) vs1) σ H Q) :
    tLc2 (tI G W fe p it) (tP G p) (tT G noW fe dt) (tI G noW fe p1 it1) (tP G p1) (tT G noW fe dt1) (tE G noW fe de) (own.map (·.2)) vs1 σ H Q := by
  obtain ⟨β, m, ρ, rp, rs, g⟩ := h
  refine ⟨β, m, ρ, rp, rs, GoodO.mono (GoodO.bind (GoodE.iff.mp g)) fun I m1 H1 β1 x rp1 g1 hcl J ok A hA => ?_⟩
  by_cases hlk : I.lk = none
  · rw [if_pos hlk] at g1
    rw [hlk] at ok
    replace ok : ItOk G J p I.xs I.w H1 β1 := ok
    have rs1 := rs.ext rp x
    have hfin : ∀ {β2 : List Pl} {m2 : Mem} {H2 : Hp} {acc : List D} {vs : List V}, Ext β1 H1 H2 β2 → (∀ f, (A, f) ∉ β2) → Rp G H2 β2 m2 → H2 A = some (.lst vs) → RVs G H2 β2 vs acc → lc2Go (dt fe) (it1 fe) (dt1 fe) (de fe) p p1 vs1 I.w (wipeE ρ (own.map (·.2))) I.xs [] m1 = .ok acc m2 → Q (.ref A) H2 := by
      intro β2 m2 H2 acc vs x2 nd2 rp3 hA2 rv e
      rw [e] at g1
      have rj := rp3.join nd2 hA2 rv
      refine g1 (β2 ++ [(A, false)]) H2 ⟨x2.bl.trans ⟨_, rfl⟩, x2.fr, fun b f hb => ?_⟩ rj (.ref A) ?_
      · rcases List.mem_append.mp hb with hb | hb
        · exact x2.nw b f hb
        · simp only [List.mem_singleton] at hb
          cases hb; exact .inr (.inr hA)
      · simp only [RV]
        exact ⟨A, false, rfl, by rw [← rp3.len]; simp⟩
    have hbad : lc2Go (dt fe) (it1 fe) (dt1 fe) (de fe) p p1 vs1 I.w (wipeE ρ (own.map (·.2))) I.xs [] m1 ≠ .bad := fun e => by rw [e] at g1; exact g1
    clear g1 g
    generalize e0 : lc2Go (dt fe) (it1 fe) (dt1 fe) (de fe) p p1 vs1 I.w (wipeE ρ (own.map (·.2))) I.xs [] m1 = r0 at hfin hbad
    have le0 : Hle H1 (upd H1 A (.lst [])) := Hle.upd hA
    have nd0 : ∀ f, (A, f) ∉ β1 := fun f => rp1.fresh hA f
    have xnew : ∀ {β4 : List Pl} {H4 : Hp} {zs : List V}, Ext β1 H1 H4 β4 → Ext β1 H1 (upd H4 A (.lst zs)) β4 := fun {β4 H4 zs} x => ⟨x.bl, fun b o e n => by
      rw [upd_ne (ne_of_none e hA)]; exact x.fr b o e n, x.nw⟩
    refine ⟨fun i k H => ∃ β m acc vs, Ext β1 H1 H β ∧ (∀ f, (A, f) ∉ β) ∧ Lt G β1 H1 β H ∧ Rp G H β m ∧ H A = some (.lst vs) ∧ RVs G H β vs acc ∧ lc2Go (dt fe) (it1 fe) (dt1 fe) (de fe) p p1 vs1 I.w (wipeE ρ (own.map (·.2))) (I.xs.drop i) acc m = r0 ∧ i ≤ I.xs.length ∧ k = I.xs.length - i,
      ⟨_, β1, m1, [], [], Ext.le le0, nd0, Lt.refl.ext rp1 (Ext.le le0), rp1.le le0, upd_same, RVs.nil, e0, Nat.zero_le _, rfl⟩, ?_⟩
    rintro i k H ⟨β, m, acc, vs, xe, nd, t, rp, hA', rv, e, hi, rfl⟩
    rcases Nat.lt_or_ge i I.xs.length with hlt | hge
    · rw [List.drop_eq_getElem_cons hlt] at e
      have hd : I.xs[i]? = some I.xs[i] := List.getElem?_eq_getElem hlt
      generalize I.xs[i] = d at e hd
      simp only [lc2Go] at e
      by_cases hw : watchOk I.w m = true
      · rw [if_pos hw] at e
        cases q : bindP p d (wipeE ρ (own.map (·.2))) with
        | none => rw [q] at e; exact absurd e.symm hbad
        | some ρ1 =>
          rw [q] at e
          simp only at e
          refine .inr ⟨ok.go i d H β m t rp hw hd, fun H' => ∃ β m acc vs, Ext β1 H1 H' β ∧ (∀ f, (A, f) ∉ β) ∧ Lt G β1 H1 β H' ∧ Rp G H' β m ∧ H' A = some (.lst vs) ∧ RVs G H' β vs acc ∧ lc2Go (dt fe) (it1 fe) (dt1 fe) (de fe) p p1 vs1 I.w (wipeE ρ (own.map (·.2))) (I.xs.drop (i + 1)) acc m = r0, ?_, fun x H' hy => ?_⟩
          · rintro H' ⟨β', m', acc', vs', h1, h2, h3, h4, h5, h6, h7⟩
            exact ⟨_, by omega, β', m', acc', vs', h1, h2, h3, h4, h5, h6, h7, hlt, rfl⟩
          · obtain ⟨le, rw'⟩ := ok.yld i d x H H' β m t rp hw hd hy
            refine ⟨β, m, wipeE ρ (own.map (·.2)), d, ρ1, rp.le le, (rs1.wipe _).mono (t.tl.trans le.tl) t.bl, rw', q, fun σ' rs' off => ⟨wipe_off off hs, β, m, ρ1, rp.le le, rs', ?_⟩⟩
            cases ed : dt fe ρ1 m with
            | exc c pp m3 => rw [ed] at e; exact absurd e.symm hbad
            | bad => rw [ed] at e; exact absurd e.symm hbad
            | ok b m3 =>
              rw [ed] at e
              simp only [noX_ok, Out.bind_ok] at e
              intro β3 H3 x3 rp3
              have xe3 : Ext β1 H1 H3 β3 := xe.trans ((Ext.le le).trans x3)
              have hA3 : H3 A = some (.lst vs) := x3.fr _ _ (le _ _ hA') (nd false)
              have nd3 : ∀ f, (A, f) ∉ β3 := nd_next nd (le _ _ hA') x3
              have t3 : Lt G β1 H1 β3 H3 := (t.ext rp (Ext.le le)).ext (rp.le le) x3
              have rv3 : RVs G H3 β3 vs acc := RVs.mono (le.tl.trans (x3.tl (rp.le le))) x3.bl _ _ rv
              have rs3 := rs'.ext (rp.le le) x3
              cases b with
              | false =>
                simp only [Bool.false_eq_true, if_false] at e ⊢
                exact ⟨β3, m3, acc, vs, xe3, nd3, t3, rp3, hA3, rv3, e⟩
              | true =>
                simp only [if_true] at e ⊢
                refine ⟨β3, m3, ρ1, rp3, rs3, ?_⟩
                cases ei : it1 fe ρ1 m3 with
                | exc c pp m4 => rw [ei] at e; exact absurd e.symm hbad
                | bad => rw [ei] at e; exact absurd e.symm hbad
                | ok J2 m4 =>
                  rw [ei] at e
                  simp only [noX_ok, Out.bind_ok] at e
                  intro β4 H4 x4 rp4 hcl4 J1 ok1
                  by_cases hlk2 : J2.lk = none
                  · rw [if_pos hlk2] at e
                    rw [hlk2] at ok1
                    replace ok1 : ItOk G J1 p1 J2.xs J2.w H4 β4 := ok1
                    cases e1 : lcGo (dt1 fe) (de fe) p1 J2.w (wipeE ρ1 vs1) J2.xs acc m4 with
                    | exc c pp m5 => rw [e1] at e; exact absurd e.symm hbad
                    | bad => rw [e1] at e; exact absurd e.symm hbad
                    | ok acc' m5 =>
                      rw [e1] at e
                      simp only [noX_ok, Out.bind_ok] at e
                      have hA4 : H4 A = some (.lst vs) := x4.fr _ _ hA3 (nd3 false)
                      have nd4 : ∀ f, (A, f) ∉ β4 := nd_next nd3 hA3 x4
                      have rs4 := rs3.ext rp3 x4
                      refine ⟨fun j k H => ∃ β m acc1 vs2, Ext β1 H1 H β ∧ (∀ f, (A, f) ∉ β) ∧ Lt G β1 H1 β H ∧ Lt G β4 H4 β H ∧ Rp G H β m ∧ H A = some (.lst vs2) ∧ RVs G H β vs2 acc1 ∧ lcGo (dt1 fe) (de fe) p1 J2.w (wipeE ρ1 vs1) (J2.xs.drop j) acc1 m = .ok acc' m5 ∧ j ≤ J2.xs.length ∧ k = J2.xs.length - j,
                        ⟨_, β4, m4, acc, vs, xe3.trans x4, nd4, t3.ext rp3 x4, Lt.refl, rp4, hA4, RVs.mono (x4.tl rp3) x4.bl _ _ rv3, e1, Nat.zero_le _, rfl⟩, ?_⟩
                      rintro j k2 H ⟨β, m, acc1, vs2, ye, ynd, yt, yt4, yrp, yA, yrv, ye1, yj, rfl⟩
                      rcases Nat.lt_or_ge j J2.xs.length with jlt | jge
                      · rw [List.drop_eq_getElem_cons jlt] at ye1
                        have jd : J2.xs[j]? = some J2.xs[j] := List.getElem?_eq_getElem jlt
                        generalize J2.xs[j] = d1 at ye1 jd
                        simp only [lcGo] at ye1
                        by_cases hw1 : watchOk J2.w m = true
                        · rw [if_pos hw1] at ye1
                          cases q1 : bindP p1 d1 (wipeE ρ1 vs1) with
                          | none => rw [q1] at ye1; cases ye1
                          | some ρ2 =>
                            rw [q1] at ye1
                            simp only at ye1
                            refine .inr ⟨ok1.go j d1 H β m yt4 yrp hw1 jd, fun H' => ∃ β m acc1 vs2, Ext β1 H1 H' β ∧ (∀ f, (A, f) ∉ β) ∧ Lt G β1 H1 β H' ∧ Lt G β4 H4 β H' ∧ Rp G H' β m ∧ H' A = some (.lst vs2) ∧ RVs G H' β vs2 acc1 ∧ lcGo (dt1 fe) (de fe) p1 J2.w (wipeE ρ1 vs1) (J2.xs.drop (j + 1)) acc1 m = .ok acc' m5, ?_, fun x H' hy1 => ?_⟩
                            · rintro H' ⟨β', m', acc2, vs3, h1, h2, h3, h4, h5, h6, h7, h8⟩
                              exact ⟨_, by omega, β', m', acc2, vs3, h1, h2, h3, h4, h5, h6, h7, h8, jlt, rfl⟩
                            · obtain ⟨le2, rw2⟩ := ok1.yld j d1 x H H' β m yt4 yrp hw1 jd hy1
                              refine ⟨β, m, wipeE ρ1 vs1, d1, ρ2, yrp.le le2, (rs4.wipe _).mono (yt4.tl.trans le2.tl) yt4.bl, rw2, q1, fun σ3 rs5 off2 => ⟨wipe_off off2 hs1, β, m, ρ2, yrp.le le2, rs5, ?_⟩⟩
                              cases ed1 : dt1 fe ρ2 m with
                              | exc c pp m6 => rw [ed1] at ye1; cases ye1
                              | bad => rw [ed1] at ye1; cases ye1
                              | ok b m6 =>
                                rw [ed1] at ye1
                                simp only [noX_ok, Out.bind_ok] at ye1
                                intro β6 H6 x6 rp6
                                have xe6 : Ext β1 H1 H6 β6 := ye.trans ((Ext.le le2).trans x6)
                                have hA6 : H6 A = some (.lst vs2) := x6.fr _ _ (le2 _ _ yA) (ynd false)
                                have nd6 : ∀ f, (A, f) ∉ β6 := nd_next ynd (le2 _ _ yA) x6
                                have t6 : Lt G β1 H1 β6 H6 := (yt.ext yrp (Ext.le le2)).ext (yrp.le le2) x6
                                have t64 : Lt G β4 H4 β6 H6 := (yt4.ext yrp (Ext.le le2)).ext (yrp.le le2) x6
                                have rv6 : RVs G H6 β6 vs2 acc1 := RVs.mono (le2.tl.trans (x6.tl (yrp.le le2))) x6.bl _ _ yrv
                                cases b with
                                | false =>
                                  simp only [Bool.false_eq_true, if_false] at ye1 ⊢
                                  exact ⟨β6, m6, acc1, vs2, xe6, nd6, t6, t64, rp6, hA6, rv6, ye1⟩
                                | true =>
                                  simp only [if_true] at ye1 ⊢
                                  refine ⟨β6, m6, ρ2, rp6, rs5.ext (yrp.le le2) x6, ?_⟩
                                  cases ee : de fe ρ2 m6 with
                                  | exc c pp m7 => rw [ee] at ye1; cases ye1
                                  | bad => rw [ee] at ye1; cases ye1
                                  | ok y m7 =>
                                    rw [ee] at ye1
                                    simp only [noX_ok, Out.bind_ok] at ye1
                                    intro u β7 H7 x7 rp7 ru
                                    by_cases hl : acc1.length < sizeLine
                                    · rw [if_pos hl] at ye1
                                      have hA7 : H7 A = some (.lst vs2) := x7.fr _ _ hA6 (nd6 false)
                                      have nd7 : ∀ f, (A, f) ∉ β7 := nd_next nd6 hA6 x7
                                      have t7 := t6.ext rp6 x7
                                      have t74 := t64.ext rp6 x7
                                      refine ⟨vs2, hA7, by rw [yrv.length]; exact hl, β7, m7, acc1 ++ [y], vs2 ++ [u], xnew (xe6.trans x7), nd7, ⟨t7.tl.trans (tl_other hA7), t7.bl, fun b o hb e => ?_⟩, ⟨t74.tl.trans (tl_other hA7), t74.bl, fun b o hb e => ?_⟩, rp7.other nd7 hA7, upd_same, ?_, ye1⟩
                                      · rw [upd_ne (ne_of_none e hA)]; exact t7.lk b o hb e
                                      · rw [upd_ne (fun z => nd4 true (by rw [← z]; exact hb))]; exact t74.lk b o hb e
                                      · exact RVs.mono (tl_other hA7) (BL.refl _) _ _ ((RVs.mono (x7.tl rp6) x7.bl _ _ rv6).append (RVs.one ru))
                                    · rw [if_neg hl] at ye1; cases ye1
                        · rw [if_neg hw1] at ye1; cases ye1
                      · have ej : j = J2.xs.length := by omega
                        rw [List.drop_of_length_le jge] at ye1
                        simp only [lcGo] at ye1
                        by_cases hw1 : watchOk J2.w m = true
                        · rw [if_pos hw1] at ye1
                          cases ye1
                          exact .inl ⟨by rw [ej]; exact ok1.stop H β _ yt4 yrp hw1, β, _, acc', vs2, ye, ynd, yt, yrp, yA, yrv, e⟩
                        · rw [if_neg hw1] at ye1; cases ye1
                  · rw [if_neg hlk2] at e; exact absurd e.symm hbad
      · rw [if_neg hw] at e; exact absurd e.symm hbad
    · have ei : i = I.xs.length := by omega
      rw [List.drop_of_length_le hge] at e
      simp only [lc2Go] at e
      by_cases hw : watchOk I.w m = true
      · rw [if_pos hw] at e
        exact .inl ⟨by rw [ei]; exact ok.stop H β m t rp hw, hfin xe nd rp hA' rv e.symm⟩
      · rw [if_neg hw] at e; exact absurd e.symm hbad
  · rw [if_neg hlk] at g1; exact g1.elim
theorem xlc2_ok (on : On G X) (hc : X.calm = true) (hN : X.N.Nodup) (hi : PI X tg iter (tI G W fe p it)) (ok : BlkOk X.N X.env.scope scope own) (hv : ∀ i ∈ vs1, i ∈ own.map (·.2))
    (hg : ∀ (s : Shared) (H : Hp) (C : Addr) (cl : List (Str × Addr)) (fp : List Addr), PG (X.blk s H scope (compEnvC scope cl C X.env) fp) tg (tP G p)) (ht : ∀ (s : Shared) (H : Hp) (C : Addr) (cl : List (Str × Addr)) (fp : List Addr), PTs (X.blk s H scope (compEnvC scope cl C X.env) fp) ifs (tT G noW fe dt))
    (hi1 : ∀ (s : Shared) (H : Hp) (C : Addr) (cl : List (Str × Addr)) (fp : List Addr), PI (X.blk s H scope (compEnvC scope cl C X.env) fp) tg1 iter1 (tI G noW fe p1 it1))
    (hg1 : ∀ (s : Shared) (H : Hp) (C : Addr) (cl : List (Str × Addr)) (fp : List Addr), PG (X.blk s H scope (compEnvC scope cl C X.env) fp) tg1 (tP G p1)) (ht1 : ∀ (s : Shared) (H : Hp) (C : Addr) (cl : List (Str × Addr)) (fp : List Addr), PTs (X.blk s H scope (compEnvC scope cl C X.env) fp) ifs1 (tT G noW fe dt1))
    (he : ∀ (s : Shared) (H : Hp) (C : Addr) (cl : List (Str × Addr)) (fp : List Addr), PE (X.blk s H scope (compEnvC scope cl C X.env) fp) elt (tE G noW fe de)) (hs : ∀ x, foldedSetIterable iter X.env x = pure x) (hs1 : ∀ env x, foldedSetIterable iter1 env x = pure x) (hsl : ∀ i ∈ p.slots, i ∈ own.map (·.2)) (hsl1 : ∀ i ∈ p1.slots, i ∈ vs1) :
    PE X (.ListComp elt [⟨tg, iter, ifs, 0⟩, ⟨tg1, iter1, ifs1, 0⟩] scope pos) (tE G W fe (xLc2 it p dt it1 p1 dt1 de (own.map (·.2)) vs1)) := PE.imp (pe_lc2 hc hN hi ok hv hg ht hi1 hg1 ht1 he hs hs1) fun σ H Q h => lc2_red on hsl hsl1 h
end
end Mn
set_option Elab.async false
set_option linter.all false
set_option maxRecDepth 100000
set_option maxHeartbeats 1000000
/-! Mn24: words for Mn21 .. Mn23. -/
namespace Mn
open PySem L2 PySem.Spec PyProof.Rows
section
variable {T : Tx} {G : Gx} {X : Cx} {W : WX} {fe : FE} {k : Nat} {a b c e o : Expr} {es rest : List Expr} {da db dc : Den} {dA : DenA} {dt dt1 du : DenT} {x x2 : Str} {p p2 q q2 tp pos apos : Pos} {tg tg1 iter iter1 : Expr} {P P1 : Pat}
namespace Ok
variable (h : Ok T G X W fe k)
include h
theorem isi2 {T1 T2 : String} {kk : Nat} (j0 j j2 : Nat) (ha : PE X e (tE G W fe da)) (hvT : bootBuiltins x = some (.type T1)) (hvT2 : bootBuiltins x2 = some (.type T2)) (hT : T1 ∈ tys.tail := by decide) (hT2 : T2 ∈ tys.tail := by decide) (hj0 : T.bls[j0]? = some "isinstance" := by rfl) (hj : T.bls[j]? = some x := by rfl) (hj2 : T.bls[j2]? = some x2 := by rfl) (hg : Gl X "isinstance" := by rfl) (hgT : Gl X x := by rfl) (hgT2 : Gl X x2 := by rfl)
    (hnT : x ≠ "__name__" := by decide) (hdT : (x == ("__debug__" : Str)) = false := by decide) (hnT2 : x2 ≠ "__name__" := by decide) (hdT2 : (x2 == ("__debug__" : Str)) = false := by decide)
    (hst : starEach [.Name x q, .Name x2 q2] X.env = (false, eval (.Name x q) X.env) :: starEach [.Name x2 q2] X.env := by rfl) (hst2 : starEach [.Name x2 q2] X.env = (false, eval (.Name x2 q2) X.env) :: starEach [] X.env := by rfl)
    (hs : starEach [e, .Tuple [.Name x q, .Name x2 q2] kk tp] X.env = (false, eval e X.env) :: starEach [.Tuple [.Name x q, .Name x2 q2] kk tp] X.env := by rfl) (hs2 : starEach [.Tuple [.Name x q, .Name x2 q2] kk tp] X.env = (false, eval (.Tuple [.Name x q, .Name x2 q2] kk tp) X.env) :: starEach [] X.env := by rfl) :
    PE X (.Call (.Name "isinstance" p) [e, .Tuple [.Name x q, .Name x2 q2] kk tp] [] pos) (tE G W fe (xIsi [T1, T2] da)) :=
  xisi2_ok h.on hT hT2 ha hg (h.tx.bl j0 _ hj0) boot_isinstance (by decide) (by decide) hgT (h.tx.bl j _ hj) hvT hnT hdT hgT2 (h.tx.bl j2 _ hj2) hvT2 hnT2 hdT2 hst hst2 hs hs2 rfl
theorem sortSet {xp sp cpos : Pos} (j j2 : Nat) (ha : PE X e (tE G W fe da)) (hj : T.bls[j]? = some "sorted" := by rfl) (hj2 : T.bls[j2]? = some "set" := by rfl) (hg : Gl X "sorted" := by rfl) (hg2 : Gl X "set" := by rfl)
    (hs : starEach [e] X.env = (false, eval e X.env) :: starEach [] X.env := by rfl) (hs2 : starEach [.Call (.Name "set" sp) [e] [] cpos] X.env = (false, eval (.Call (.Name "set" sp) [e] [] cpos) X.env) :: starEach [] X.env := by rfl) :
    PE X (.Call (.Name "sorted" xp) [.Call (.Name "set" sp) [e] [] cpos] [] pos) (tE G W fe (xSortSet da)) :=
  PE.imp (pe_callB (cr_sortedSet h.calm) hg (h.tx.bl j _ hj) boot_sorted (pa_cons (pe_callTy (cr_setI h.calm) hg2 (h.tx.bl j2 _ hj2) boot_set (pa_cons ha pa_nil hs) (by decide) (by decide) hs rfl) pa_nil hs2) (by decide) (by decide) hs2 rfl) fun σ H Q z => sortSet_red h.on z
theorem lc2 {elt : Expr} {ifs ifs1 : List Expr} {scope : Scope} {it it1 : DenI} {own : List (Str × Nat)} (vs1 : List Nat) (ok : BlkOk X.N X.env.scope scope own) (hi : PI X tg iter (tI G W fe P it))
    (hg : ∀ (s : Shared) (H : Hp) (C : Addr) (cl : List (Str × Addr)) (fp : List Addr), Ok T G (X.blk s H scope (compEnvC scope cl C X.env) fp) noW fe k → PG (X.blk s H scope (compEnvC scope cl C X.env) fp) tg (tP G P))
    (ht : ∀ (s : Shared) (H : Hp) (C : Addr) (cl : List (Str × Addr)) (fp : List Addr), Ok T G (X.blk s H scope (compEnvC scope cl C X.env) fp) noW fe k → PTs (X.blk s H scope (compEnvC scope cl C X.env) fp) ifs (tT G noW fe dt))
    (hi1 : ∀ (s : Shared) (H : Hp) (C : Addr) (cl : List (Str × Addr)) (fp : List Addr), Ok T G (X.blk s H scope (compEnvC scope cl C X.env) fp) noW fe k → PI (X.blk s H scope (compEnvC scope cl C X.env) fp) tg1 iter1 (tI G noW fe P1 it1))
    (hg1 : ∀ (s : Shared) (H : Hp) (C : Addr) (cl : List (Str × Addr)) (fp : List Addr), Ok T G (X.blk s H scope (compEnvC scope cl C X.env) fp) noW fe k → PG (X.blk s H scope (compEnvC scope cl C X.env) fp) tg1 (tP G P1))
    (ht1 : ∀ (s : Shared) (H : Hp) (C : Addr) (cl : List (Str × Addr)) (fp : List Addr), Ok T G (X.blk s H scope (compEnvC scope cl C X.env) fp) noW fe k → PTs (X.blk s H scope (compEnvC scope cl C X.env) fp) ifs1 (tT G noW fe dt1))
    (he : ∀ (s : Shared) (H : Hp) (C : Addr) (cl : List (Str × Addr)) (fp : List Addr), Ok T G (X.blk s H scope (compEnvC scope cl C X.env) fp) noW fe k → PE (X.blk s H scope (compEnvC scope cl C X.env) fp) elt (tE G noW fe da)) (hs : ∀ x, foldedSetIterable iter X.env x = pure x := by intro _; rfl) (hs1 : ∀ env x, foldedSetIterable iter1 env x = pure x := by intro _ _; rfl) (hsl : ∀ i ∈ P.slots, i ∈ own.map (·.2) := by decide) (hsl1 : ∀ i ∈ P1.slots, i ∈ vs1 := by decide) (hv : ∀ i ∈ vs1, i ∈ own.map (·.2) := by decide) :
    PE X (.ListComp elt [⟨tg, iter, ifs, 0⟩, ⟨tg1, iter1, ifs1, 0⟩] scope pos) (tE G W fe (xLc2 it P dt it1 P1 dt1 da (own.map (·.2)) vs1)) :=
  xlc2_ok h.on h.calm h.nd hi ok hv (fun s H C cl fp => hg s H C cl fp (h.blk _ _ _ _ _)) (fun s H C cl fp => ht s H C cl fp (h.blk _ _ _ _ _)) (fun s H C cl fp => hi1 s H C cl fp (h.blk _ _ _ _ _)) (fun s H C cl fp => hg1 s H C cl fp (h.blk _ _ _ _ _)) (fun s H C cl fp => ht1 s H C cl fp (h.blk _ _ _ _ _)) (fun s H C cl fp => he s H C cl fp (h.blk _ _ _ _ _)) hs hs1 hsl hsl1
end Ok
end
end Mn
set_option Elab.async false
set_option linter.all false
set_option maxRecDepth 100000
set_option maxHeartbeats 1000000
/-! Mn25: a dict compared with a text. -/
namespace Mn
open PySem L2 PySem.Spec PyProof.Rows PySem.SeqAt PySem.MeetsSeq PySem.Calls
theorem dict_eq_no_str (l : Addr) (es : Array DictEntry) (ep : Nat) (dd : Option Addr) (sl : Array (Option Value)) (b : Str) (u : Tok) :
    Meets (Builtin.«dict.__eq__» ⟨[.ref l, .str b u], []⟩) (fun _ R s => s.heap.get? l = some { cls := .type "dict", dict := dd, data := .dict es ep, slots := sl } ∧ R (.ok (.ret .notImplemented)) s) :=
  .of_wp fun prog w A R s h => by obtain ⟨hp, g, d, tk, os⟩ := s; obtain ⟨hl, h⟩ := h; have f1 := F.sub_str_dict; wp_walk using wpAny_loadPart' hl; exact ⟨_, rfl, h⟩
theorem dict_ne_no_str (l : Addr) (es : Array DictEntry) (ep : Nat) (dd : Option Addr) (sl : Array (Option Value)) (b : Str) (u : Tok) :
    Meets (Builtin.«dict.__ne__» ⟨[.ref l, .str b u], []⟩) (fun _ R s => s.heap.get? l = some { cls := .type "dict", dict := dd, data := .dict es ep, slots := sl } ∧ R (.ok (.ret .notImplemented)) s) :=
  .of_wp fun prog w A R s h => by obtain ⟨hp, g, d, tk, os⟩ := s; obtain ⟨hl, h⟩ := h; have f1 := F.sub_str_dict; wp_walk using wpAny_loadPart' hl; exact ⟨_, rfl, h⟩
theorem str_eq_no_dict (b : Str) (u : Tok) (l : Addr) (c : Value) (es : Array DictEntry) (ep : Nat) (dd : Option Addr) (sl : Array (Option Value)) :
    Meets (Builtin.«str.__eq__» ⟨[.str b u, .ref l], []⟩) (fun _ R s => s.heap.get? l = some { cls := c, dict := dd, data := .dict es ep, slots := sl } ∧ R (.ok (.ret .notImplemented)) s) :=
  .of_wp fun prog w A R s h => by obtain ⟨hp, g, d, tk, os⟩ := s; obtain ⟨hl, h⟩ := h; wp_walk using wpAny_loadPart' hl, wpAny_load hl; exact ⟨_, rfl, h⟩
theorem str_ne_no_dict (b : Str) (u : Tok) (l : Addr) (c : Value) (es : Array DictEntry) (ep : Nat) (dd : Option Addr) (sl : Array (Option Value)) :
    Meets (Builtin.«str.__ne__» ⟨[.str b u, .ref l], []⟩) (fun _ R s => s.heap.get? l = some { cls := c, dict := dd, data := .dict es ep, slots := sl } ∧ R (.ok (.ret .notImplemented)) s) :=
  .of_wp fun prog w A R s h => by obtain ⟨hp, g, d, tk, os⟩ := s; obtain ⟨hl, h⟩ := h; wp_walk using wpAny_loadPart' hl, wpAny_load hl; exact ⟨_, rfl, h⟩
/-- == and != where a dict may meet a text -/
def opEqS : Op2 := fun a b m => match a, b with
  | .loc l, .str z => match m[l]? with
    | some (.dict _ _) => some (.bl false, m)
    | _ => opEq (.loc l) (.str z) m
  | a, b => opEq a b m
def opNeS : Op2 := fun a b m => match a, b with
  | .loc l, .str z => match m[l]? with
    | some (.dict _ _) => some (.bl true, m)
    | _ => opNe (.loc l) (.str z) m
  | a, b => opNe a b m
section
variable {G : Gx} {X : Cx}
theorem opEqS_ok (on : On G X) (hu : X.A.units + 64 < cLine) : OpR X (compareOp .Eq) (rO2 G opEqS) := by
  intro pins s σ H x y v u Q I rx ry ⟨β, m, a, b, rp, ra, rb, h⟩
  unfold opEqS at h
  split at h
  · rename_i l z
    split at h
    · rename_i kvs lk e
      obtain ⟨p, es, ep, rfl, _, _, _, h2, _⟩ := rp.dict e ra
      obtain ⟨o, ep, h3, h4, h5⟩ := dictO_at I h2
      simp only [RV] at rb
      subst rb
      obtain ⟨t, rfl⟩ := ry
      cases rx
      obtain ⟨cls, dd, data, sl⟩ := o
      obtain ⟨hc, _⟩ := h4
      simp only at hc h5
      subst hc h5
      have hu' : X.A.units < cLine := by omega
      exact rc_eq_decline_or (k := false) ⟨_, h3, rfl⟩ (typeIs_str s z t) (by decide) F.sub_str_dict F.slot_dict_eq F.slot_str_eq_refl
        (fun _ hq => call_meets F.slot_dict_eq ⟨_, h3, rfl⟩ F.entry_dict_eq (F.args_dict_eq_2 _ _) (dict_eq_no_str p es ep dd sl z t) ⟨h3, hq⟩)
        (fun _ hq => call_meets F.slot_str_eq_refl (typeIs_str s z t) F.entry_str_eq (F.args_str_eq_2 _ _) (str_eq_no_dict z t p (.type "dict") es ep dd sl) ⟨h3, hq⟩)
        (fun _ hq => wpAny_of_eq (rfl : isSame (.ref p) (.str z t) = pure false) hq) (.inr hu') ⟨.bl false, H, I, rfl, Post.bl h rp⟩
    · exact opEq_ok on hu pins s σ H x y v u Q I rx ry ⟨β, m, _, _, rp, ra, rb, h⟩
  · exact opEq_ok on hu pins s σ H x y v u Q I rx ry ⟨β, m, _, _, rp, ra, rb, h⟩
theorem opNeS_ok (on : On G X) (hu : X.A.units + 64 < cLine) : OpR X (compareOp .NotEq) (rO2 G opNeS) := by
  intro pins s σ H x y v u Q I rx ry ⟨β, m, a, b, rp, ra, rb, h⟩
  unfold opNeS at h
  split at h
  · rename_i l z
    split at h
    · rename_i kvs lk e
      obtain ⟨p, es, ep, rfl, _, _, _, h2, _⟩ := rp.dict e ra
      obtain ⟨o, ep, h3, h4, h5⟩ := dictO_at I h2
      simp only [RV] at rb
      subst rb
      obtain ⟨t, rfl⟩ := ry
      cases rx
      obtain ⟨cls, dd, data, sl⟩ := o
      obtain ⟨hc, _⟩ := h4
      simp only at hc h5
      subst hc h5
      have hu' : X.A.units < cLine := by omega
      exact rc_ne_decline_or (k := false) ⟨_, h3, rfl⟩ (typeIs_str s z t) (by decide) F.sub_str_dict F.slot_dict_ne F.slot_str_ne_refl
        (fun _ hq => call_meets F.slot_dict_ne ⟨_, h3, rfl⟩ F.entry_dict_ne (F.args_dict_ne_2 _ _) (dict_ne_no_str p es ep dd sl z t) ⟨h3, hq⟩)
        (fun _ hq => call_meets F.slot_str_ne_refl (typeIs_str s z t) F.entry_str_ne (F.args_str_ne_2 _ _) (str_ne_no_dict z t p (.type "dict") es ep dd sl) ⟨h3, hq⟩)
        (fun _ hq => wpAny_of_eq (rfl : isSame (.ref p) (.str z t) = pure false) hq) (.inr hu') ⟨.bl true, H, I, rfl, Post.bl h rp⟩
    · exact opNe_ok on hu pins s σ H x y v u Q I rx ry ⟨β, m, _, _, rp, ra, rb, h⟩
  · exact opNe_ok on hu pins s σ H x y v u Q I rx ry ⟨β, m, _, _, rp, ra, rb, h⟩
end
section
variable {T : Tx} {G : Gx} {X : Cx} {W : WX} {fe : FE} {k : Nat} {a b : Expr} {da db : Den} {pos : Pos}
namespace Ok
variable (h : Ok T G X W fe k)
include h
theorem eqS (ha : PE X a (tE G W fe da)) (hb : PE X b (tE G W fe db)) : PE X (.Compare a [.Eq] [b] pos) (tE G W fe (xBin opEqS da db)) := xcmp_ok (opEqS_ok h.on h.u64) ha hb (nomark _)
theorem teqS (ha : PE X a (tE G W fe da)) (hb : PE X b (tE G W fe db)) : PT X (.Compare a [.Eq] [b] pos) (tT G W fe (tB (xBin opEqS da db))) := tcmp_ok (opEqS_ok h.on h.u64) ha hb (nomark _)
theorem neS (ha : PE X a (tE G W fe da)) (hb : PE X b (tE G W fe db)) : PE X (.Compare a [.NotEq] [b] pos) (tE G W fe (xBin opNeS da db)) := xcmp_ok (opNeS_ok h.on h.u64) ha hb (nomark _)
theorem tneS (ha : PE X a (tE G W fe da)) (hb : PE X b (tE G W fe db)) : PT X (.Compare a [.NotEq] [b] pos) (tT G W fe (tB (xBin opNeS da db))) := tcmp_ok (opNeS_ok h.on h.u64) ha hb (nomark _)
end Ok
end
end Mn
set_option Elab.async false
set_option linter.all false
set_option maxRecDepth 100000
set_option maxHeartbeats 1000000
/-! Mq0: how denotations are reckoned. -/
namespace Mn
open PySem
section
variable {fe : FE} {ρ : Env} {m : Mem} {a b c o : Den} {t u : DenT} {dA : DenA} {f g : Op2} {d : D} {i j : Nat} {sa sb : DenS}
/-! ### garbage -/
theorem take_app {α : Type} (m x : List α) : (m ++ x).take m.length = m := by simp
@[simp] theorem cutOk_same : cutOk m m = true := by simp [cutOk]
@[simp] theorem cutOk_app (x : Mem) : cutOk m (m ++ x) = true := by simp [cutOk]
@[simp] theorem gcO_same : gcO m (.ok d m) = .ok d m := by simp [gcO]
theorem gcO_app (x : Mem) (h : closed m.length d = true) : gcO m (.ok d (m ++ x)) = .ok d m := by simp [gcO, h]
theorem gcO_len {m' : Mem} (h : m'.length = m.length) : gcO m (.ok d m') = .ok d m' := by
  unfold gcO
  simp only
  rw [← h, List.take_length]
  simp
theorem gcB_len {m' : Mem} {k : Bool} (h : m'.length = m.length) : gcB m (.ok k m') = .ok k m' := by
  unfold gcB
  simp only
  rw [← h, List.take_length]
  simp
@[simp] theorem gcB_end {k : Bool} (o o' : O) : gcB (m ++ [o]) (.ok k (m ++ [o'])) = .ok k (m ++ [o']) := gcB_len (by simp)
@[simp] theorem gcO_end (o o' : O) : gcO (m ++ [o]) (.ok d (m ++ [o'])) = .ok d (m ++ [o']) := gcO_len (by simp)
@[simp] theorem gcO_bad : gcO m .bad = .bad := rfl
@[simp] theorem gcB_same {k : Bool} : gcB m (.ok k m) = .ok k m := by simp [gcB]
@[simp] theorem gcB_app {k : Bool} (x : Mem) : gcB m (.ok k (m ++ x)) = .ok k m := by simp [gcB]
@[simp] theorem gcO_app0 (x : Mem) (h : closed m.length d = true) : gcO m (.ok d (m ++ x)) = .ok d m := gcO_app x h
@[simp] theorem gcO_app1 (o : O) (x : Mem) (h : closed (m.length + 1) d = true) : gcO (m ++ [o]) (.ok d (m ++ o :: x)) = .ok d (m ++ [o]) := by
  have := gcO_app (m := m ++ [o]) (d := d) x (by simpa using h)
  simpa using this
@[simp] theorem gcO_app2 (o o' : O) (x : Mem) (h : closed (m.length + 2) d = true) : gcO (m ++ [o, o']) (.ok d (m ++ o :: o' :: x)) = .ok d (m ++ [o, o']) := by
  have := gcO_app (m := m ++ [o, o']) (d := d) x (by simpa using h)
  simpa using this
@[simp] theorem gcB_app1 {k : Bool} (o : O) (x : Mem) : gcB (m ++ [o]) (.ok k (m ++ o :: x)) = .ok k (m ++ [o]) := by
  have := gcB_app (m := m ++ [o]) (k := k) x
  simpa using this
@[simp] theorem gcB_app2 {k : Bool} (o o' : O) (x : Mem) : gcB (m ++ [o, o']) (.ok k (m ++ o :: o' :: x)) = .ok k (m ++ [o, o']) := by
  have := gcB_app (m := m ++ [o, o']) (k := k) x
  simpa using this
@[simp] theorem gcO_bl (x : Mem) (k : Bool) : gcO m (.ok (.bl k) (m ++ x)) = .ok (.bl k) m := gcO_app x rfl
@[simp] theorem gcO_int (x : Mem) (k : Int) : gcO m (.ok (.int k) (m ++ x)) = .ok (.int k) m := gcO_app x rfl
@[simp] theorem gcO_str (x : Mem) (k : Str) : gcO m (.ok (.str k) (m ++ x)) = .ok (.str k) m := gcO_app x rfl
@[simp] theorem gcO_non (x : Mem) : gcO m (.ok .non (m ++ x)) = .ok .non m := gcO_app x rfl
@[simp] theorem gcO_exc0 (x : Mem) (k : Nat) : gcO m (.exc k none (m ++ x)) = .exc k none m := by simp [gcO]
@[simp] theorem gcO_exc1 (k : Nat) : gcO m (.exc k none m) = .exc k none m := by simp [gcO]
@[simp] theorem gcO_exc2 (k : Nat) (p : Option D) : gcO m (.exc k p m) = .exc k p m := by simp [gcO]
@[simp] theorem gcB_exc1 (k : Nat) (p : Option D) : gcB m (.exc k p m) = .exc k p m := by simp [gcB]
/-! ### expressions -/
def andK (x : D) (r : Out D) (m : Mem) : Out D := match x with
  | .bl true => r
  | .bl false => .ok (.bl false) m
  | _ => .bad
def orK (x : D) (r : Out D) (m : Mem) : Out D := match x with
  | .bl false => r
  | .bl true => .ok (.bl true) m
  | _ => .bad
def notK (x : D) (m : Mem) : Out D := match x with
  | .bl b => .ok (.bl (!b)) m
  | _ => .bad
def blK (x : D) (m : Mem) : Out Bool := match x with
  | .bl b => .ok b m
  | _ => .bad
@[simp] theorem andK_bl (k : Bool) (r : Out D) : andK (.bl k) r m = if k = true then r else .ok (.bl false) m := by cases k <;> rfl
@[simp] theorem orK_bl (k : Bool) (r : Out D) : orK (.bl k) r m = if k = true then .ok (.bl true) m else r := by cases k <;> rfl
@[simp] theorem notK_bl (k : Bool) : notK (.bl k) m = .ok (.bl (!k)) m := rfl
@[simp] theorem blK_bl (k : Bool) : blK (.bl k) m = .ok k m := rfl
@[simp] theorem if_and (k l : Bool) : (if k = true then Out.ok (D.bl l) m else .ok (.bl false) m) = .ok (.bl (k && l)) m := by cases k <;> rfl
@[simp] theorem if_or (k l : Bool) : (if k = true then Out.ok (D.bl true) m else .ok (.bl l) m) = .ok (.bl (k || l)) m := by cases k <;> rfl
@[simp] theorem if_andT (k l : Bool) : (if k = true then Out.ok l m else .ok false m) = .ok (k && l) m := by cases k <;> rfl
@[simp] theorem if_orT (k l : Bool) : (if k = true then Out.ok true m else .ok l m) = .ok (k || l) m := by cases k <;> rfl
section
variable {P : Prop} [Decidable P]
@[simp] theorem if_andP (l : Bool) : (if P then Out.ok (D.bl l) m else .ok (.bl false) m) = .ok (.bl (decide P && l)) m := by split <;> simp_all
@[simp] theorem if_andP' (l : Bool) : (if P then Out.ok (D.bl false) m else .ok (.bl l) m) = .ok (.bl (!decide P && l)) m := by split <;> simp_all
@[simp] theorem if_orP (l : Bool) : (if P then Out.ok (D.bl true) m else .ok (.bl l) m) = .ok (.bl (decide P || l)) m := by split <;> simp_all
@[simp] theorem if_orP' (l : Bool) : (if P then Out.ok (D.bl l) m else .ok (.bl true) m) = .ok (.bl (!decide P || l)) m := by split <;> simp_all
@[simp] theorem if_andQ (l : Bool) : (if P then Out.ok l m else .ok false m) = .ok (decide P && l) m := by split <;> simp_all
@[simp] theorem if_andQ' (l : Bool) : (if P then Out.ok false m else .ok l m) = .ok (!decide P && l) m := by split <;> simp_all
@[simp] theorem if_orQ (l : Bool) : (if P then Out.ok true m else .ok l m) = .ok (decide P || l) m := by split <;> simp_all
@[simp] theorem if_orQ' (l : Bool) : (if P then Out.ok l m else .ok true m) = .ok (!decide P || l) m := by split <;> simp_all
end
@[simp] theorem xVar_ev : xVar i fe ρ m = (match ρ[i]? with
  | some (some v) => .ok v m
  | _ => .bad) := rfl
@[simp] theorem xLit_ev : xLit d fe ρ m = .ok d m := rfl
@[simp] theorem xBin_ev : xBin f a b fe ρ m = (a fe ρ m).bind fun x m1 => (b fe ρ m1).bind fun y m2 => .ofO (f x y m2) := rfl
@[simp] theorem xNeg_ev : xNeg a fe ρ m = (a fe ρ m).bind fun x m1 => match x with
  | .int i => .ok (.int (-i)) m1
  | _ => .bad := rfl
@[simp] theorem xGc_ev : xGc a fe ρ m = gcO m (a fe ρ m) := rfl
@[simp] theorem tVal_ev : tVal a fe ρ m = (a fe ρ m).bind fun x m1 => match truth m1 x with
  | some b => .ok b m1
  | none => .bad := rfl
@[simp] theorem tB_ev : tB a fe ρ m = (a fe ρ m).bind fun x m1 => blK x m1 := rfl
@[simp] theorem tNt_ev : tNt t fe ρ m = (t fe ρ m).bind fun b m1 => .ok (!b) m1 := rfl
@[simp] theorem tAn_ev : tAn t u fe ρ m = (t fe ρ m).bind fun x m1 => if x = true then u fe ρ m1 else .ok false m1 := rfl
@[simp] theorem tOo_ev : tOo t u fe ρ m = (t fe ρ m).bind fun x m1 => if x = true then .ok true m1 else u fe ρ m1 := rfl
@[simp] theorem tGc_ev : tGc t fe ρ m = gcB m (t fe ρ m) := rfl
@[simp] theorem xAnd_ev : xAnd a b fe ρ m = (a fe ρ m).bind fun x m1 => andK x (b fe ρ m1) m1 := rfl
@[simp] theorem xOr_ev : xOr a b fe ρ m = (a fe ρ m).bind fun x m1 => orK x (b fe ρ m1) m1 := rfl
@[simp] theorem xNot_ev : xNot a fe ρ m = (a fe ρ m).bind fun x m1 => notK x m1 := rfl
@[simp] theorem xIf_ev : xIf t a b fe ρ m = (t fe ρ m).bind fun x m1 => if x = true then a fe ρ m1 else b fe ρ m1 := rfl
@[simp] theorem aNil_ev : aNil fe ρ m = .ok [] m := rfl
@[simp] theorem aCons_ev : aCons a dA fe ρ m = (a fe ρ m).bind fun x m1 => (dA fe ρ m1).bind fun xs m2 => .ok (x :: xs) m2 := rfl
@[simp] theorem xTup_ev : xTup dA fe ρ m = (dA fe ρ m).bind fun xs m1 => if xs.length ≤ sizeLine then .ok (.tup xs) m1 else .bad := rfl
@[simp] theorem xLst_ev : xLst dA fe ρ m = (dA fe ρ m).bind fun xs m1 => if xs.length ≤ sizeLine then .ok (.loc m1.length) (m1 ++ [.lst xs]) else .bad := rfl
@[simp] theorem xChain_ev : xChain f g a b c fe ρ m = (a fe ρ m).bind fun x m1 => (b fe ρ m1).bind fun y m2 => (Out.ofO (f x y m2)).bind fun z m3 => andK z ((c fe ρ m3).bind fun w m4 => .ofO (g y w m4)) m3 := rfl
@[simp] theorem xCallF_ev {F : OpN} : xCallF F dA fe ρ m = (dA fe ρ m).bind fun ds m1 => .ofO (F ds m1) := rfl
@[simp] theorem xCall_ev : xCall j dA fe ρ m = (dA fe ρ m).bind fun ds m1 => fe j ds m1 := rfl
@[simp] theorem xCallV_ev : xCallV i dA fe ρ m = (match ρ[i]? with
  | some (some (.fn j)) => (dA fe ρ m).bind fun ds m1 => fe j ds m1
  | _ => .bad) := rfl
@[simp] theorem xIsi_ev {Ts : List String} : xIsi Ts a fe ρ m = (a fe ρ m).bind fun x m1 => match tyN m1 x with
  | some t => .ok (.bl (Ts.any (isT t))) m1
  | none => .bad := rfl
@[simp] theorem xMeth_ev {fs : List (String × OpM)} : xMeth fs o dA fe ρ m = (o fe ρ m).bind fun d m1 => match fs.lookup (tyD m1 d) with
  | some f => (dA fe ρ m1).bind fun ds m2 => .ofO (f d ds m2)
  | none => .bad := rfl
@[simp] theorem xSl_ev {lo hi : DenO} : xSl a lo hi fe ρ m = (a fe ρ m).bind fun x m1 => (lo fe ρ m1).bind fun l m2 => (hi fe ρ m2).bind fun h m3 => .ofO (opSl x l h m3) := rfl
@[simp] theorem oNone_ev : oNone fe ρ m = .ok none m := rfl
@[simp] theorem oSome_ev : oSome a fe ρ m = (a fe ρ m).bind fun x m1 => match x with
  | .int i => .ok (some i) m1
  | _ => .bad := rfl
/-! ### statements -/
@[simp] theorem ofE_ok {α : Type} (v : α) (k : α → Mem → OutS) : OutS.ofE (.ok v m) ρ k = k v m := rfl
@[simp] theorem ofE_exc {α : Type} (n : Nat) (p : Option D) (k : α → Mem → OutS) : OutS.ofE (.exc n p m) ρ k = .exc n p ρ m := rfl
@[simp] theorem ofE_bad {α : Type} (k : α → Mem → OutS) : OutS.ofE (.bad : Out α) ρ k = .bad := rfl
@[simp] theorem seq_next (k : Env → Mem → OutS) : OutS.seq (.next ρ m) k = k ρ m := rfl
@[simp] theorem seq_ret (v : D) (k : Env → Mem → OutS) : OutS.seq (.ret v m) k = .ret v m := rfl
@[simp] theorem seq_exc (n : Nat) (p : Option D) (k : Env → Mem → OutS) : OutS.seq (.exc n p ρ m) k = .exc n p ρ m := rfl
@[simp] theorem sNil_ev : sNil fe ρ m = .next ρ m := rfl
@[simp] theorem sSeq_ev : sSeq sa sb fe ρ m = (sa fe ρ m).seq fun ρ' m' => sb fe ρ' m' := rfl
@[simp] theorem sExpr_ev : sExpr a fe ρ m = .ofE (a fe ρ m) ρ fun _ m1 => .next ρ m1 := rfl
@[simp] theorem sRet_ev : sRet a fe ρ m = .ofE (a fe ρ m) ρ fun v m1 => .ret v m1 := rfl
@[simp] theorem sIf_ev : sIf t sa sb fe ρ m = .ofE (t fe ρ m) ρ fun c m1 => if c = true then sa fe ρ m1 else sb fe ρ m1 := rfl
@[simp] theorem sSet_ev : sSet i a fe ρ m = .ofE (a fe ρ m) ρ fun v m1 => .next (ρ.set i (some v)) m1 := rfl
@[simp] theorem sRaise0_ev : sRaise0 i fe ρ m = .exc i none ρ m := rfl
@[simp] theorem sRaise1_ev : sRaise1 i dA fe ρ m = .ofE (dA fe ρ m) ρ fun vs m1 => match vs with
  | [v] => .exc i (some v) ρ m1
  | _ => .bad := rfl
/-- a def's end -/
@[simp] theorem bodyD_ev {np nN : Nat} {den : DenS} {ds : List D} (h : ds.length = np) : bodyD np nN den fe ds m = (match den fe (ds.map some ++ List.replicate (nN - np) none) m with
      | .ret v m' => .ok v m'
      | .next _ m' => .ok .non m'
      | .exc c p _ m' => .exc c p m'
      | _ => .bad) := by unfold bodyD; (rw [if_pos h]) <;> rfl
end
end Mn
set_option Elab.async false
set_option linter.all false
set_option maxRecDepth 100000
set_option maxHeartbeats 1000000
/-! Mq1: comprehensions and loops reckoned. -/
namespace Mn
open PySem
theorem sizeLine_is : sizeLine = 16777216 := sizeLine_eq
section
variable {fe : FE} {ρ : Env} {m m1 : Mem} {a : Den} {p : Pat} {w : Watch} {own : List Nat} {it : DenI} {t : DenT} {e : Den} {xs acc : List D}
theorem lcGo_pure {t : Env → Mem → Out Bool} {e : Env → Mem → Out D} (T : D → Bool) (E : D → D) (hw : watchOk w m = true) : ∀ (xs acc : List D), acc.length + xs.length ≤ sizeLine →
    (∀ x ∈ xs, ∃ ρ1, bindP p x ρ = some ρ1 ∧ t ρ1 m = .ok (T x) m ∧ (T x = true → e ρ1 m = .ok (E x) m)) → lcGo t e p w ρ xs acc m = .ok (acc ++ (xs.filter T).map E) m
  | [], acc, _, _ => by simp [lcGo, hw]
  | x :: xs, acc, hl, h => by
    obtain ⟨ρ1, h1, h2, h3⟩ := h x (by simp)
    simp only [List.length_cons] at hl
    simp only [lcGo, hw, if_true, h1, h2, noX_ok, Out.bind_ok]
    cases c : T x with
    | true =>
      simp only [if_true, h3 c, noX_ok, Out.bind_ok]
      rw [if_pos (by omega), lcGo_pure T E hw xs _ (by simp; omega) fun y hy => h y (by simp [hy])]
      simp [c]
    | false =>
      simp only [Bool.false_eq_true, if_false]
      rw [lcGo_pure T E hw xs _ (by omega) fun y hy => h y (by simp [hy])]
      simp [c]
/-- a comprehension that changes nothing -/
theorem xLc_pure (T : D → Bool) (E : D → D) (hit : it fe ρ m = .ok ⟨xs, w, none⟩ m1) (hw : watchOk w m1 = true) (hl : xs.length ≤ sizeLine)
    (h : ∀ x ∈ xs, ∃ ρ1, bindP p x (wipeE ρ own) = some ρ1 ∧ t fe ρ1 m1 = .ok (T x) m1 ∧ (T x = true → e fe ρ1 m1 = .ok (E x) m1)) : xLc it p t e own fe ρ m = .ok (.loc m1.length) (m1 ++ [.lst ((xs.filter T).map E)]) := by
  unfold xLc
  rw [hit]
  simp only [Out.bind_ok, lockM, lcGo_pure T E hw xs [] (by simpa using hl) h, unlockL, unlockM, List.nil_append]
/-- without a test -/
theorem xLc_map (E : D → D) (hit : it fe ρ m = .ok ⟨xs, w, none⟩ m1) (hw : watchOk w m1 = true) (hl : xs.length ≤ sizeLine)
    (h : ∀ x ∈ xs, ∃ ρ1, bindP p x (wipeE ρ own) = some ρ1 ∧ e fe ρ1 m1 = .ok (E x) m1) : xLc it p tYesD e own fe ρ m = .ok (.loc m1.length) (m1 ++ [.lst (xs.map E)]) := by
  rw [xLc_pure (fun _ => true) E hit hw hl fun x hx => by
    obtain ⟨ρ1, h1, h2⟩ := h x hx
    exact ⟨ρ1, h1, rfl, fun _ => h2⟩]
  rw [List.filter_eq_self.mpr (by simp)]
/-- a comprehension that changes what stands: I what holds behind so many turns -/
theorem lcGo_inv {e : Env → Mem → Out D} (I : List D → Mem → Prop) : ∀ (xs acc : List D) (m : Mem), I acc m → acc.length + xs.length ≤ sizeLine →
    (∀ acc m, I acc m → watchOk w m = true) → (∀ x ∈ xs, ∀ acc m, I acc m → ∃ ρ1 y m2, bindP p x ρ = some ρ1 ∧ e ρ1 m = .ok y m2 ∧ I (acc ++ [y]) m2) →
    ∃ acc' m', lcGo (tYesD fe) e p w ρ xs acc m = .ok acc' m' ∧ I acc' m' ∧ acc'.length = acc.length + xs.length
  | [], acc, m, i, _, hw, _ => ⟨acc, m, by simp [lcGo, hw acc m i], i, by simp⟩
  | x :: xs, acc, m, i, hl, hw, h => by
    obtain ⟨ρ1, y, m2, h1, h2, i2⟩ := h x (by simp) acc m i
    simp only [List.length_cons] at hl
    obtain ⟨acc', m', h3, h4, h5⟩ := lcGo_inv I xs (acc ++ [y]) m2 i2 (by simp; omega) hw fun z hz => h z (by simp [hz])
    refine ⟨acc', m', ?_, h4, by simp at h5 ⊢; omega⟩
    simp only [lcGo, hw acc m i, if_true, h1, tYesD, noX_ok, Out.bind_ok, h2]
    rw [if_pos (by omega)]
    exact h3
theorem xLc_inv (I : List D → Mem → Prop) (hit : it fe ρ m = .ok ⟨xs, w, none⟩ m1) (i0 : I [] m1) (hl : xs.length ≤ sizeLine) (hw : ∀ acc m, I acc m → watchOk w m = true)
    (h : ∀ x ∈ xs, ∀ acc m, I acc m → ∃ ρ1 y m2, bindP p x (wipeE ρ own) = some ρ1 ∧ e fe ρ1 m = .ok y m2 ∧ I (acc ++ [y]) m2) :
    ∃ acc m', xLc it p tYesD e own fe ρ m = .ok (.loc m'.length) (m' ++ [.lst acc]) ∧ I acc m' ∧ acc.length = xs.length := by
  obtain ⟨acc, m', h1, h2, h3⟩ := lcGo_inv (fe := fe) I xs [] m1 i0 (by simpa using hl) hw h
  refine ⟨acc, m', ?_, h2, by simpa using h3⟩
  unfold xLc
  rw [hit]
  simp only [Out.bind_ok, lockM, h1, unlockL, unlockM]
/-- a loop that goes on to its end: I what holds ahead of the rest -/
theorem forGo_inv {b : Env → Mem → OutS} (I : List D → Env → Mem → Prop) (hw : ∀ r ρ m, I r ρ m → watchOk w m = true) : ∀ (xs : List D) (ρ : Env) (m : Mem), I xs ρ m →
    (∀ x r ρ m, I (x :: r) ρ m → ∃ ρ1 ρ2 m2, bindP p x ρ = some ρ1 ∧ (b ρ1 m = .next ρ2 m2 ∨ b ρ1 m = .cont ρ2 m2) ∧ I r ρ2 m2) → ∃ ρ' m', forGo b p w xs ρ m = .next ρ' m' ∧ I [] ρ' m'
  | [], ρ, m, i, _ => ⟨ρ, m, by simp [forGo, hw _ _ _ i], i⟩
  | x :: xs, ρ, m, i, h => by
    obtain ⟨ρ1, ρ2, m2, h1, h2, i2⟩ := h x xs ρ m i
    obtain ⟨ρ', m', h3, h4⟩ := forGo_inv I hw xs ρ2 m2 i2 h
    refine ⟨ρ', m', ?_, h4⟩
    simp only [forGo, hw _ _ _ i, if_true, h1]
    rcases h2 with h2 | h2 <;> rw [h2] <;> simpa using h3
theorem sFor_inv {b : DenS} (I : List D → Env → Mem → Prop) (hit : it fe ρ m = .ok ⟨xs, w, none⟩ m1) (hw : ∀ r ρ m, I r ρ m → watchOk w m = true) (i0 : I xs ρ m1)
    (h : ∀ x r ρ m, I (x :: r) ρ m → ∃ ρ1 ρ2 m2, bindP p x ρ = some ρ1 ∧ (b fe ρ1 m = .next ρ2 m2 ∨ b fe ρ1 m = .cont ρ2 m2) ∧ I r ρ2 m2) : ∃ ρ' m', sFor it p b fe ρ m = .next ρ' m' ∧ I [] ρ' m' := by
  obtain ⟨ρ', m', h1, h2⟩ := forGo_inv I hw xs ρ m1 i0 h
  refine ⟨ρ', m', ?_, h2⟩
  unfold sFor
  rw [hit]
  simp only [ofE_ok, lockM, h1, unlockS, unlockM]
@[simp] theorem iAny_ev : iAny a fe ρ m = (a fe ρ m).bind fun d m1 => match d with
  | .tup xs => .ok ⟨xs, [], none⟩ m1
  | .seq xs => .ok ⟨xs, [], none⟩ m1
  | .str z => .ok ⟨signs z, [], none⟩ m1
  | .loc l => match m1[l]? with
    | some (.lst xs) => .ok ⟨xs, [(l, .lst xs)], none⟩ m1
    | some (.dict kvs lk) => .ok ⟨kvs.map (·.1), [], if lk = true then none else some l⟩ m1
    | _ => .bad
  | _ => .bad := rfl
@[simp] theorem watchOk_nil : watchOk [] m = true := rfl
theorem boolsD_map {α : Type} (B : α → Bool) : ∀ xs : List α, boolsD (xs.map fun x => D.bl (B x)) = some (xs.map B)
  | [] => rfl
  | x :: xs => by simp [boolsD, boolsD_map B xs]
theorem get_end {α : Type} (m : List α) (x : α) : (m ++ [x])[m.length]? = some x := by simp
theorem xLc_bools (B : D → Bool) (hit : it fe ρ m = .ok ⟨xs, w, none⟩ m1) (hw : watchOk w m1 = true) (hl : xs.length ≤ sizeLine)
    (h : ∀ x ∈ xs, ∃ ρ1, bindP p x (wipeE ρ own) = some ρ1 ∧ e fe ρ1 m1 = .ok (.bl (B x)) m1) : xLc it p tYesD e own fe ρ m = .ok (.loc m1.length) (m1 ++ [.lst (xs.map fun x => .bl (B x))]) := xLc_map (fun x => .bl (B x)) hit hw hl h
@[simp] theorem bAll_end (B : D → Bool) : bAll [.loc m.length] (m ++ [.lst (xs.map fun x => D.bl (B x))]) = some (.bl (xs.all B), m ++ [.lst (xs.map fun x => D.bl (B x))]) := by
  simp only [bAll, listM, get_end, Option.bind_some, boolsD_map]
  simp [List.all_map, Function.comp_def]
@[simp] theorem bAny_end (B : D → Bool) : bAny [.loc m.length] (m ++ [.lst (xs.map fun x => D.bl (B x))]) = some (.bl (xs.any B), m ++ [.lst (xs.map fun x => D.bl (B x))]) := by
  simp only [bAny, listM, get_end, Option.bind_some, boolsD_map]
  simp [List.any_map, Function.comp_def]
@[simp] theorem bTuple_end : bTuple [.loc m.length] (m ++ [.lst xs]) = some (.tup xs, m ++ [.lst xs]) := by simp [bTuple, itemsM]
@[simp] theorem bTuple_end2 {o : O} : bTuple [.loc (m.length + 1)] (m ++ [o, .lst xs]) = some (.tup xs, m ++ [o, .lst xs]) := by simp [bTuple, itemsM]
@[simp] theorem bList_tup : bList [.tup xs] m = some (.loc m.length, m ++ [.lst xs]) := rfl
theorem bSorted_end (h : sortable xs = true) (hl : xs.length ≤ sizeLine) : bSorted [.loc m.length] (m ++ [.lst xs]) = some (.loc (m.length + 1), m ++ [.lst xs, .lst (sortD xs)]) := by
  simp [bSorted, seqD, h, hl]
theorem bSorted_tup (h : sortable xs = true) (hl : xs.length ≤ sizeLine) : bSorted [.tup xs] m = some (.loc m.length, m ++ [.lst (sortD xs)]) := by
  simp [bSorted, seqD, h, hl]
theorem atI_nat {α : Type} (l : List α) (i : Nat) : L2.atI l (i : Int) = l[i]? := by
  unfold L2.atI L2.ixN
  by_cases c : i < l.length
  · have : (0 : Int) ≤ i ∧ (i : Int) < l.length := by omega
    simp [c]
  · have e : l[i]? = none := List.getElem?_eq_none (by omega)
    rw [e]
    have : ¬ (i : Int) < l.length := by omega
    simp [c]
@[simp] theorem atI_0 {α : Type} (a : α) (l : List α) : L2.atI (a :: l) 0 = some a := atI_nat (a :: l) 0
@[simp] theorem atI_1 {α : Type} (a b : α) (l : List α) : L2.atI (a :: b :: l) 1 = some b := atI_nat (a :: b :: l) 1
@[simp] theorem atI_2 {α : Type} (a b c : α) (l : List α) : L2.atI (a :: b :: c :: l) 2 = some c := atI_nat (a :: b :: c :: l) 2
@[simp] theorem atI_3 {α : Type} (a b c d : α) (l : List α) : L2.atI (a :: b :: c :: d :: l) 3 = some d := atI_nat (a :: b :: c :: d :: l) 3
@[simp] theorem atI_4 {α : Type} (a b c d e : α) (l : List α) : L2.atI (a :: b :: c :: d :: e :: l) 4 = some e := atI_nat (a :: b :: c :: d :: e :: l) 4
@[simp] theorem atI_5 {α : Type} (a b c d e f : α) (l : List α) : L2.atI (a :: b :: c :: d :: e :: f :: l) 5 = some f := atI_nat (a :: b :: c :: d :: e :: f :: l) 5
/-! ### order -/
/-- a < b -/
def ltD (a b : D) : Bool := PySem.W.dataLt (toPy a) (toPy b)
/-- a < b is told -/
def ltOk : D → D → Bool
  | .int _, .int _ => true
  | .str _, .str _ => true
  | .tup xs, .tup ys => pureD 12 (.tup xs) && pureD 12 (.tup ys) && comp (toPy (.tup xs)) (toPy (.tup ys))
  | _, _ => false
theorem opLt_of {a b : D} (h : ltOk a b = true) : opLt a b m = some (.bl (ltD a b), m) := by
  unfold ltOk at h
  split at h
  · simp [opLt, ltD, toPy, PySem.W.dataLt_int]
  · simp [opLt, ltD, toPy, PySem.W.dataLt_str]
  · simp only [Bool.and_eq_true] at h
    simp [opLt, ltT, h.1.1, h.1.2, h.2, ltD]
  · cases h
/-- each one before the next -/
def ascD : List D → Bool
  | a :: b :: r => ltD a b && ascD (b :: r)
  | _ => true
def ascOk : List D → Bool
  | a :: b :: r => ltOk a b && ascOk (b :: r)
  | _ => true
def pairLt : D → Bool
  | .tup [a, b] => ltD a b
  | _ => false
theorem zip_asc : ∀ xs : List D, (zipD xs xs.tail).all pairLt = ascD xs
  | [] => rfl
  | [a] => rfl
  | a :: b :: r => by
    have := zip_asc (b :: r)
    simp only [zipD, List.tail_cons, List.zipWith_cons_cons, List.all_cons, pairLt, ascD] at this ⊢
    rw [← this]
theorem zip_ok : ∀ xs : List D, ascOk xs = true → ∀ x ∈ zipD xs xs.tail, ∃ a b, x = .tup [a, b] ∧ ltOk a b = true
  | [], _, x, h => by simp [zipD] at h
  | [a], _, x, h => by simp [zipD] at h
  | a :: b :: r, o, x, h => by
    simp only [ascOk, Bool.and_eq_true] at o
    have h' : x = .tup [a, b] ∨ x ∈ zipD (b :: r) r := by simpa [zipD] using h
    rcases h' with rfl | h'
    · exact ⟨a, b, rfl, o.1⟩
    · exact zip_ok (b :: r) o.2 x h'
@[simp] theorem cut_tail {α : Type} (xs : List α) : cutD xs (some 1) none = xs.tail := by
  unfold cutD
  have e : HT.sIx xs.length 0 (some 1) = min 1 xs.length := HT.sIx_nat xs.length 0 1
  rw [e]
  cases xs with
  | nil => rfl
  | cons a l =>
    simp [HT.sIx_none, Nat.min_eq_left (Nat.succ_le_succ (Nat.zero_le l.length))]
@[simp] theorem iZipD_ev {dA : DenA} : iZipD dA fe ρ m = (dA fe ρ m).bind fun ds m1 => match ds with
  | [x, y] => match zipI m1 x y with
    | some (xs, ys, w) => .ok ⟨zipD xs ys, w, none⟩ m1
    | none => .bad
  | _ => .bad := rfl
@[simp] theorem le_sz1 : (1 ≤ sizeLine) = True := by rw [sizeLine_is]; simp
@[simp] theorem le_sz2 : (2 ≤ sizeLine) = True := by rw [sizeLine_is]; simp
@[simp] theorem le_sz3 : (3 ≤ sizeLine) = True := by rw [sizeLine_is]; simp
@[simp] theorem le_sz4 : (4 ≤ sizeLine) = True := by rw [sizeLine_is]; simp
@[simp] theorem le_sz5 : (5 ≤ sizeLine) = True := by rw [sizeLine_is]; simp
@[simp] theorem le_sz6 : (6 ≤ sizeLine) = True := by rw [sizeLine_is]; simp
@[simp] theorem le_sz7 : (7 ≤ sizeLine) = True := by rw [sizeLine_is]; simp
@[simp] theorem le_sz8 : (8 ≤ sizeLine) = True := by rw [sizeLine_is]; simp
@[simp] theorem le_sz9 : (9 ≤ sizeLine) = True := by rw [sizeLine_is]; simp
@[simp] theorem le_sz10 : (10 ≤ sizeLine) = True := by rw [sizeLine_is]; simp
@[simp] theorem le_sz11 : (11 ≤ sizeLine) = True := by rw [sizeLine_is]; simp
@[simp] theorem le_sz12 : (12 ≤ sizeLine) = True := by rw [sizeLine_is]; simp
end
end Mn
set_option Elab.async false
set_option linter.all false
set_option maxRecDepth 100000
set_option maxHeartbeats 1000000
/-! Mq2: the order of comparable data: strict, total; sorted rows. -/
namespace Mn
open PySem PySem.W PyProof.Rows
mutual
theorem comp_inj : ∀ (x y : PyData), x.canLay0 = true → comp x y = true → ∀ r s, keyToks x ++ r = keyToks y ++ s → PyData.eqv x y = true
  | .bool a, y, _, h, r, s, e => by
    cases y <;> simp only [comp, Bool.false_eq_true] at h
    rename_i b
    simp only [keyToks, List.singleton_append, List.cons.injEq, Sum.inl.injEq] at e
    cases a <;> cases b <;> simp_all [PyData.eqv]
  | .int a, y, _, h, r, s, e => by
    cases y <;> simp only [comp, Bool.false_eq_true] at h
    simp only [keyToks, List.singleton_append, List.cons.injEq, Sum.inl.injEq] at e
    simp [PyData.eqv, e.1]
  | .str a, y, _, h, r, s, e => by
    cases y <;> simp only [comp, Bool.false_eq_true] at h
    simp only [keyToks, List.singleton_append, List.cons.injEq, Sum.inr.injEq] at e
    simp [PyData.eqv, str_of_cps e.1]
  | .tuple xs, y, l, h, r, s, e => by
    cases y <;> simp only [comp, Bool.false_eq_true] at h
    simp only [keyToks] at e
    simp only [PyData.eqv]
    exact compAll_inj xs _ (by simpa [PyData.canLay0] using l) h r s e
  | .none, y, _, h, r, s, e => by simp [comp] at h
  | .list _, y, _, h, r, s, e => by simp [comp] at h
  | .dict _, y, _, h, r, s, e => by simp [comp] at h
theorem compAll_inj : ∀ (xs ys : List PyData), PyData.canLayAll0 xs = true → compAll xs ys = true → ∀ r s, keyToksAll xs ++ r = keyToksAll ys ++ s → PyData.eqvAll xs ys = true
  | [], [], _, _, r, s, e => by simp [PyData.eqvAll]
  | [], y :: ys, _, _, r, s, e => by simp [keyToksAll] at e
  | x :: xs, [], _, _, r, s, e => by simp [keyToksAll] at e
  | x :: xs, y :: ys, l, h, r, s, e => by
    obtain ⟨l1, l2⟩ := lay_cons l
    simp only [keyToksAll, List.cons_append, List.cons.injEq, true_and, List.append_assoc] at e
    simp only [compAll] at h
    by_cases c : PyData.eqv x y = true
    · rw [if_pos c] at h
      rw [eqv_toks x y l1 c] at e
      have := compAll_inj xs ys l2 h r s (List.append_cancel_left e)
      simp [PyData.eqvAll, c, this]
    · rw [if_neg c] at h
      exact absurd (comp_inj x y l1 h _ _ e) c
end
theorem ltD_irrefl (a : D) : ltD a a = false := lex_irrefl _
theorem ltD_trans {a b c : D} (h : ltD a b = true) (g : ltD b c = true) : ltD a c = true := lex_trans _ _ _ h g
theorem ltD_total {a b : D} (l : (toPy a).canLay0 = true) (c : comp (toPy a) (toPy b) = true) (h1 : ltD a b = false) (h2 : ltD b a = false) : PyData.eqv (toPy a) (toPy b) = true := by
  have e := lex_total _ _ h1 h2
  exact comp_inj _ _ l c [] [] (by simpa using e)
theorem leD_is (a b : D) : leD a b = !ltD b a := rfl
theorem sort_pairwise (xs : List D) : (sortD xs).Pairwise fun a b => ltD b a = false := by
  have h := List.pairwise_mergeSort (le := leD) (fun a b c h1 h2 => by
    simp only [leD_is, Bool.not_eq_true'] at h1 h2 ⊢
    cases q : ltD c a with
    | false => rfl
    | true =>
      rcases lex_negTrans (O := itemOrd) _ (keyToks (toPy b)) _ q with z | z
      · exact absurd (show ltD c b = true from z) (by rw [h2]; simp)
      · exact absurd (show ltD b a = true from z) (by rw [h1]; simp)) (fun a b => by
    simp only [leD_is, Bool.or_eq_true, Bool.not_eq_true']
    cases q : ltD b a with
    | false => exact .inl rfl
    | true =>
      refine .inr ?_
      cases q2 : ltD a b with
      | false => rfl
      | true => exact absurd (ltD_trans q q2) (by rw [ltD_irrefl]; simp)) xs
  exact h.imp fun h => by simpa [leD_is] using h
theorem sort_perm (xs : List D) : (sortD xs).Perm xs := List.mergeSort_perm xs leD
/-- strictly ascending lists with the same members are the same -/
theorem asc_unique {xs ys : List D} (hx : xs.Pairwise fun a b => ltD a b = true) (hy : ys.Pairwise fun a b => ltD a b = true) (h : ∀ d, d ∈ xs ↔ d ∈ ys) : xs = ys := by
  induction xs generalizing ys with
  | nil =>
    cases ys with
    | nil => rfl
    | cons y r => exact absurd ((h y).mpr (by simp)) (by simp)
  | cons x r ih =>
    cases ys with
    | nil => exact absurd ((h x).mp (by simp)) (by simp)
    | cons y s =>
      rw [List.pairwise_cons] at hx hy
      have e : x = y := by
        rcases List.mem_cons.mp ((h x).mp (by simp)) with e | hxs
        · exact e
        · rcases List.mem_cons.mp ((h y).mpr (by simp)) with e | hyr
          · exact e.symm
          · exact absurd (ltD_trans (hx.1 y hyr) (hy.1 x hxs)) (by rw [ltD_irrefl]; simp)
      subst e
      rw [ih hx.2 hy.2 fun d => ⟨fun hd => by
        rcases List.mem_cons.mp ((h d).mp (by simp [hd])) with e | z
        · subst e
          exact absurd (hx.1 d hd) (by rw [ltD_irrefl]; simp)
        · exact z, fun hd => by
        rcases List.mem_cons.mp ((h d).mpr (by simp [hd])) with e | z
        · subst e
          exact absurd (hy.1 d hd) (by rw [ltD_irrefl]; simp)
        · exact z⟩]
theorem ascD_pairwise : ∀ {xs : List D}, ascD xs = true → xs.Pairwise fun a b => ltD a b = true
  | [], _ => .nil
  | [a], _ => by simp
  | a :: b :: r, h => by
    simp only [ascD, Bool.and_eq_true] at h
    have ih := ascD_pairwise h.2
    refine List.pairwise_cons.mpr ⟨fun y hy => ?_, ih⟩
    rcases List.mem_cons.mp hy with rfl | hy
    · exact h.1
    · exact ltD_trans h.1 ((List.pairwise_cons.mp ih).1 y hy)
theorem pairwise_ascD : ∀ {xs : List D}, (xs.Pairwise fun a b => ltD a b = true) → ascD xs = true
  | [], _ => rfl
  | [a], _ => rfl
  | a :: b :: r, h => by
    rw [List.pairwise_cons] at h
    simp only [ascD, Bool.and_eq_true]
    exact ⟨h.1 b (by simp), pairwise_ascD h.2⟩
end Mn
set_option Elab.async false
set_option linter.all false
set_option maxRecDepth 100000
set_option maxHeartbeats 1000000
/-! Mq3: loops that look; stores that grow; pairs in order. -/
namespace Mn
open PySem PySem.W PyProof.Rows
/-- a loop that gives False at the first wrong one -/
theorem forGo_check {b : Env → Mem → OutS} {p : Pat} {m : Mem} (B : D → Bool) (I : Env → Prop) (w : Watch) (hw : watchOk w m = true) : ∀ (xs : List D) (ρ : Env), I ρ →
    (∀ x ∈ xs, ∀ ρ, I ρ → ∃ ρ1, bindP p x ρ = some ρ1 ∧ (B x = true → ∃ ρ2, b ρ1 m = .next ρ2 m ∧ I ρ2) ∧ (B x = false → b ρ1 m = .ret (.bl false) m)) →
    (xs.all B = true → ∃ ρ', forGo b p w xs ρ m = .next ρ' m ∧ I ρ') ∧ (xs.all B = false → forGo b p w xs ρ m = .ret (.bl false) m)
  | [], ρ, i, _ => ⟨fun _ => ⟨ρ, by simp [forGo, hw], i⟩, fun h => by simp at h⟩
  | x :: xs, ρ, i, h => by
    obtain ⟨ρ1, h1, h2, h3⟩ := h x (by simp) ρ i
    cases c : B x with
    | true =>
      obtain ⟨ρ2, h4, i2⟩ := h2 c
      obtain ⟨g1, g2⟩ := forGo_check B I w hw xs ρ2 i2 fun y hy => h y (by simp [hy])
      constructor
      · intro q
        simp only [List.all_cons, c, Bool.true_and] at q
        obtain ⟨ρ', g3, g4⟩ := g1 q
        exact ⟨ρ', by simp only [forGo, hw, if_true, h1, h4]; simpa using g3, g4⟩
      · intro q
        simp only [List.all_cons, c, Bool.true_and] at q
        simp only [forGo, hw, if_true, h1, h4]
        simpa using g2 q
    | false =>
      refine ⟨fun q => by simp [c] at q, fun _ => ?_⟩
      simp only [forGo, hw, if_true, h1, h3 c]
      rfl
theorem sFor_check {fe : FE} {ρ : Env} {m m1 : Mem} {it : DenI} {p : Pat} {b : DenS} {w : Watch} {xs : List D} (B : D → Bool) (I : Env → Prop) (hit : it fe ρ m = .ok ⟨xs, w, none⟩ m1) (hw : watchOk w m1 = true) (i0 : I ρ)
    (h : ∀ x ∈ xs, ∀ ρ, I ρ → ∃ ρ1, bindP p x ρ = some ρ1 ∧ (B x = true → ∃ ρ2, b fe ρ1 m1 = .next ρ2 m1 ∧ I ρ2) ∧ (B x = false → b fe ρ1 m1 = .ret (.bl false) m1)) :
    (xs.all B = true → ∃ ρ', sFor it p b fe ρ m = .next ρ' m1 ∧ I ρ') ∧ (xs.all B = false → sFor it p b fe ρ m = .ret (.bl false) m1) := by
  obtain ⟨h1, h2⟩ := forGo_check (b := b fe) (p := p) (m := m1) B I w hw xs ρ i0 h
  constructor
  · intro q
    obtain ⟨ρ', h3, h4⟩ := h1 q
    refine ⟨ρ', ?_, h4⟩
    unfold sFor
    rw [hit]
    simp only [ofE_ok, lockM, h3, unlockS, unlockM]
  · intro q
    unfold sFor
    rw [hit]
    simp only [ofE_ok, lockM, h2 q, unlockS, unlockM]
mutual
theorem closed_mono {n n' : Nat} (hn : n ≤ n') : ∀ (d : D), closed n d = true → closed n' d = true
  | .loc l, h => by simp only [closed, decide_eq_true_eq] at h ⊢; omega
  | .tup xs, h => by simp only [closed] at h ⊢; exact closeds_mono hn xs h
  | .seq xs, h => by simp only [closed] at h ⊢; exact closeds_mono hn xs h
  | .non, _ => rfl
  | .bl _, _ => rfl
  | .int _, _ => rfl
  | .str _, _ => rfl
  | .fn _, _ => rfl
theorem closeds_mono {n n' : Nat} (hn : n ≤ n') : ∀ (ds : List D), closeds n ds = true → closeds n' ds = true
  | [], _ => rfl
  | x :: xs, h => by
    simp only [closeds, Bool.and_eq_true] at h ⊢
    exact ⟨closed_mono hn x h.1, closeds_mono hn xs h.2⟩
end
theorem closedO_mono {n n' : Nat} (hn : n ≤ n') (o : O) (h : closedO n o = true) : closedO n' o = true := by
  cases o with
  | lst xs => exact closeds_mono hn xs h
  | dict kvs lk =>
    simp only [closedO, List.all_eq_true, Bool.and_eq_true] at h ⊢
    exact fun q hq => ⟨closed_mono hn _ (h q hq).1, closed_mono hn _ (h q hq).2⟩
  | inst c fs =>
    simp only [closedO, List.all_eq_true] at h ⊢
    exact fun q hq => closed_mono hn _ (h q hq)
/-- a < b of pairs whose first places differ -/
theorem ltD_pair {a b x y : D} (l : (toPy a).canLay0 = true) (h : comp (toPy a) (toPy b) = true) (e : PyData.eqv (toPy a) (toPy b) = false) : ltD (.tup [a, x]) (.tup [b, y]) = ltD a b := by
  unfold ltD
  simp only [toPy, toPys]
  rw [dataLt_tuple, lt_no l h e]
/-- pairs that are sorted, of firsts that are distinct: the firsts are strictly ascending -/
theorem sort_fst {ps : List (D × D)} (hl : ∀ p ∈ ps, (toPy p.1).canLay0 = true) (hc : ∀ p ∈ ps, ∀ q ∈ ps, comp (toPy p.1) (toPy q.1) = true) (he : ∀ p ∈ ps, ∀ q ∈ ps, PyData.eqv (toPy p.1) (toPy q.1) = true → p.1 = q.1) (nd : (ps.map (·.1)).Nodup) :
    ∃ qs : List (D × D), sortD (ps.map pairD) = qs.map pairD ∧ qs.Perm ps ∧ (qs.map (·.1)).Pairwise fun a b => ltD a b = true := by
  have hp := sort_perm (ps.map pairD)
  obtain ⟨qs, h1, h2⟩ : ∃ qs : List (D × D), sortD (ps.map pairD) = qs.map pairD ∧ qs.Perm ps := by
    obtain ⟨qs, g1, g2⟩ : ∃ qs : List (D × D), qs.Perm ps ∧ sortD (ps.map pairD) = qs.map pairD := by
      have hm : ∀ d ∈ sortD (ps.map pairD), ∃ q, pairD q = d := fun d hd => by
        obtain ⟨q, _, e⟩ := List.mem_map.mp (hp.mem_iff.mp hd)
        exact ⟨q, e⟩
      have inj : Function.Injective pairD := fun x y h => by
        obtain ⟨x1, x2⟩ := x
        obtain ⟨y1, y2⟩ := y
        simpa [pairD] using h
      let f : D → D × D := fun d => match d with
        | .tup [a, b] => (a, b)
        | _ => (.non, .non)
      have hf : ∀ q, f (pairD q) = q := fun q => rfl
      refine ⟨(sortD (ps.map pairD)).map f, ?_, ?_⟩
      · have := hp.map f
        rw [List.map_map] at this
        have e : (f ∘ pairD) = id := funext hf
        rwa [e, List.map_id] at this
      · rw [List.map_map]
        conv => lhs; rw [← List.map_id (sortD (ps.map pairD))]
        refine List.map_congr_left fun d hd => ?_
        obtain ⟨q, rfl⟩ := hm d hd
        simp [hf]
    exact ⟨qs, g2, g1⟩
  refine ⟨qs, h1, h2, ?_⟩
  have h3 := sort_pairwise (ps.map pairD)
  rw [h1, List.pairwise_map] at h3
  have h4 : qs.Pairwise fun a b => a.1 ≠ b.1 := by
    have : (qs.map (·.1)).Nodup := (h2.map (·.1)).nodup_iff.mpr nd
    exact List.pairwise_map.mp this
  rw [List.pairwise_map]
  refine List.Pairwise.imp_of_mem (fun {a b} ha hb q => ?_) (h3.and h4)
  have ha' := h2.mem_iff.mp ha
  have hb' := h2.mem_iff.mp hb
  have e1 : PyData.eqv (toPy b.1) (toPy a.1) = false := by
    cases c : PyData.eqv (toPy b.1) (toPy a.1) with
    | false => rfl
    | true => exact absurd (he b hb' a ha' c).symm q.2
  have q1 : ltD b.1 a.1 = false := by
    have := q.1
    rw [show pairD b = .tup [b.1, b.2] from rfl, show pairD a = .tup [a.1, a.2] from rfl, ltD_pair (hl b hb') (hc b hb' a ha') e1] at this
    exact this
  cases c : ltD a.1 b.1 with
  | true => rfl
  | false => exact absurd (he a ha' b hb' (ltD_total (hl a ha') (hc a ha' b hb') c q1)) q.2
end Mn
namespace Mn
open PySem
/-- a comprehension whose test changes what stands: I what holds ahead of the rest -/
theorem lcGo_invT {t : Env → Mem → Out Bool} {e : Env → Mem → Out D} {p : Pat} {ρ : Env} (I : List D → List D → Mem → Prop) : ∀ (xs acc : List D) (m : Mem), I xs acc m → acc.length + xs.length ≤ sizeLine →
    (∀ x r acc m, I (x :: r) acc m → ∃ ρ1 b m2, bindP p x ρ = some ρ1 ∧ t ρ1 m = .ok b m2 ∧ (b = false → I r acc m2) ∧ (b = true → ∃ y m3, e ρ1 m2 = .ok y m3 ∧ I r (acc ++ [y]) m3)) →
    ∃ acc' m', lcGo t e p [] ρ xs acc m = .ok acc' m' ∧ I [] acc' m'
  | [], acc, m, i, _, _ => ⟨acc, m, by simp [lcGo], i⟩
  | x :: xs, acc, m, i, hl, h => by
    obtain ⟨ρ1, b, m2, h1, h2, h3, h4⟩ := h x xs acc m i
    simp only [List.length_cons] at hl
    cases b with
    | false =>
      obtain ⟨acc', m', g1, g2⟩ := lcGo_invT I xs acc m2 (h3 rfl) (by omega) h
      exact ⟨acc', m', by simp only [lcGo, watchOk_nil, if_true, h1, h2, noX_ok, Out.bind_ok, Bool.false_eq_true, if_false]; exact g1, g2⟩
    | true =>
      obtain ⟨y, m3, h5, h6⟩ := h4 rfl
      obtain ⟨acc', m', g1, g2⟩ := lcGo_invT I xs (acc ++ [y]) m3 h6 (by simp; omega) h
      refine ⟨acc', m', ?_, g2⟩
      simp only [lcGo, watchOk_nil, if_true, h1, h2, noX_ok, Out.bind_ok, h5]
      rw [if_pos (by omega)]
      exact g1
theorem xLc_invT {fe : FE} {ρ : Env} {m m1 : Mem} {it : DenI} {p : Pat} {t : DenT} {e : Den} {own : List Nat} {xs : List D} (I : List D → List D → Mem → Prop) (hit : it fe ρ m = .ok ⟨xs, [], none⟩ m1) (i0 : I xs [] m1) (hl : xs.length ≤ sizeLine)
    (h : ∀ x r acc m, I (x :: r) acc m → ∃ ρ1 b m2, bindP p x (wipeE ρ own) = some ρ1 ∧ t fe ρ1 m = .ok b m2 ∧ (b = false → I r acc m2) ∧ (b = true → ∃ y m3, e fe ρ1 m2 = .ok y m3 ∧ I r (acc ++ [y]) m3)) :
    ∃ acc m', xLc it p t e own fe ρ m = .ok (.loc m'.length) (m' ++ [.lst acc]) ∧ I [] acc m' := by
  obtain ⟨acc, m', h1, h2⟩ := lcGo_invT I xs [] m1 i0 (by simpa using hl) h
  refine ⟨acc, m', ?_, h2⟩
  unfold xLc
  rw [hit]
  simp only [Out.bind_ok, lockM, h1, unlockL, unlockM]
end Mn
set_option Elab.async false
set_option linter.all false
set_option maxRecDepth 100000
set_option maxHeartbeats 4000000
namespace Mn
namespace K39
open PySem L2 PySem.Spec PyProof.Rows
def top (i : Nat) : Stmt := PySem.Challenge.pw_whyanswers_k39_sums_put_into_sums.main.body.getD i (.Pass ⟨0, 0, 0, 0⟩)
def tx : Tx :=
  { fns := [("is_integer" : Str), ("are_ascending" : Str), ("are_counted" : Str), ("is_sum" : Str), ("check_sum" : Str), ("summed" : Str), ("times_products" : Str), ("times" : Str), ("put" : Str), ("sum_in" : Str), ("_law_tape" : Str), ("_law_draw" : Str), ("_law_pick" : Str), ("_law_same" : Str), ("_law_times" : Str), ("_law_shown" : Str), ("_law_call" : Str), ("_law_sum" : Str), ("_law_put" : Str), ("_law_number" : Str), ("_law_plain" : Str), ("_law_rows" : Str), ("law" : Str)], bls := ["isinstance", "int", "bool", "zip", "all", "tuple", "len", "sorted", "dict", "range", "abs", "list", "str", "set", "max"], cns := [("MOST_ROWS", (.int 40)), ("MOST_PRODUCTS", (.int 2000)), ("ONE", (.tup [(.tup [(.tup []), (.int 1)])]))],
    exs := [("AnswerError", none), ("BadSum", none), ("TooFar", none)], sub := [[0, 1, 2], [1], [2]] }
/-- is_integer: value, low, high -/
def d0 : DenS := sRet (xGc (xAnd (xIsi ["int"] (xVar 0)) (xAnd (xNot (xIsi ["bool"] (xVar 0))) (xChain opLe opLe (xVar 1) (xVar 0) (xVar 2)))))
def n0 : Dn := ⟨"is_integer", top 7, 3, ["value", "low", "high"], d0⟩
theorem b0 : BodyOk tx n0 := by
  intro G fe k P w K mg base f cdv A outer s H E h
  show PSs _ _ (tS _ _ _ d0)
  exact (sone_ok (sret_ok (xgc_ok (xand_ok (h.toOk.isi 0 1 (h.toOk.v 0) boot_int) (xand_ok (xnot_ok (h.toOk.isi 0 2 (h.toOk.v 0) boot_bool)) (pe_one (h.toOk.chain h.toOk.oLtE h.toOk.oLtE (h.toOk.v 1) (h.toOk.v 0) (h.toOk.v 2))))))))
theorem ok0 : DefOk tx n0 := ⟨by decide, ⟨rfl, rfl, rfl, by decide +kernel, rfl, by decide +kernel, by decide +kernel⟩, b0⟩
/-- are_ascending: values, one, other -/
def d1 : DenS := sRet (xGc (xCallF bAll (aCons (xLc (iZipD (aCons (xVar 0) (aCons (xSl (xVar 0) (oSome (xLit (.int 1))) (oNone)) (aNil)))) (.tp [.nm 1, .nm 2]) (tYesD) (xGc (xBin opLt (xVar 1) (xVar 2))) [1, 2]) (aNil))))
def n1 : Dn := ⟨"are_ascending", top 8, 1, ["values", "one", "other"], d1⟩
theorem b1 : BodyOk tx n1 := by
  intro G fe k P w K mg base f cdv A outer s H E h
  show PSs _ _ (tS _ _ _ d1)
  exact (sone_ok (sret_ok (xgc_ok (h.toOk.bi (bAll_ok h.toOk.on h.toOk.calm) 4 (h.toOk.ac (h.toOk.lc (own := [("one", 1), ("other", 2)]) (blkOk_by (by kernel_rfl)) (h.toOk.zp 3 (h.toOk.ac (h.toOk.v 0) (h.toOk.ac (h.toOk.sl (h.toOk.v 0) (osome_ok (h.toOk.int)) (onone_ok)) (anil_ok)))) (fun _ _ _ _ _ h1 => h1.tpl (h1.pc (h1.nm 1) (h1.pc (h1.nm 2) (pnil_ok)))) (fun _ _ _ _ _ h1 => tyes_ok) (fun _ _ _ _ _ h1 => xgc_ok (h1.lt (h1.v 1) (h1.v 2)))) (anil_ok)) (by decide +kernel)))))
theorem ok1 : DefOk tx n1 := ⟨by decide, ⟨rfl, rfl, rfl, by decide +kernel, rfl, by decide +kernel, by decide +kernel⟩, b1⟩
/-- are_counted: value, pair -/
def d2 : DenS := sSeq (sIf (tGc (tNt (tVal (xIsi ["tuple"] (xVar 0))))) (sRet (xGc (xLit (.bl false)))) (sNil)) (sSeq (sFor (iAny (xVar 0)) (.nm 1) (sSeq (sIf (tGc (tOo (tNt (tVal (xIsi ["tuple"] (xVar 1)))) (tB (xBin opNe (xCallF bLen (aCons (xVar 1) (aNil))) (xLit (.int 2)))))) (sRet (xGc (xLit (.bl false)))) (sNil)) (sIf (tGc (tOo (tNt (tVal (xIsi ["int"] (xBin opIx (xVar 1) (xLit (.int 1)))))) (tOo (tVal (xIsi ["bool"] (xBin opIx (xVar 1) (xLit (.int 1))))) (tB (xBin opLt (xBin opIx (xVar 1) (xLit (.int 1))) (xLit (.int 1))))))) (sRet (xGc (xLit (.bl false)))) (sNil)))) (sRet (xGc (xLit (.bl true)))))
def n2 : Dn := ⟨"are_counted", top 11, 1, ["value", "pair"], d2⟩
theorem b2 : BodyOk tx n2 := by
  intro G fe k P w K mg base f cdv A outer s H E h
  show PSs _ _ (tS _ _ _ d2)
  exact (sseq_ok (sif_ok (tgc_ok (h.toOk.tn (h.toOk.tv (h.toOk.isi 0 5 (h.toOk.v 0) boot_tuple)))) (sone_ok (sret_ok (xgc_ok (h.toOk.bo)))) (snil_ok)) (sseq_ok (h.for_ (h.toOk.it (h.toOk.v 0)) (h.toOk.nm 1) (sseq_ok (sif_ok (tgc_ok ((too_ok (h.toOk.tn (h.toOk.tv (h.toOk.isi 0 5 (h.toOk.v 1) boot_tuple))) (too1_ok (h.toOk.tne (h.toOk.bi (bLen_ok h.toOk.on) 6 (h.toOk.ac (h.toOk.v 1) (anil_ok)) PySem.boot_len) (h.toOk.int)))).pt)) (sone_ok (sret_ok (xgc_ok (h.toOk.bo)))) (snil_ok)) (sone_ok (sif_ok (tgc_ok ((too_ok (h.toOk.tn (h.toOk.tv (h.toOk.isi 0 1 (h.toOk.ix (h.toOk.v 1) (h.toOk.int)) boot_int))) (too_ok (h.toOk.tv (h.toOk.isi 0 2 (h.toOk.ix (h.toOk.v 1) (h.toOk.int)) boot_bool)) (too1_ok (h.toOk.tlt (h.toOk.ix (h.toOk.v 1) (h.toOk.int)) (h.toOk.int))))).pt)) (sone_ok (sret_ok (xgc_ok (h.toOk.bo)))) (snil_ok))))) (sone_ok (sret_ok (xgc_ok (h.toOk.bo))))))
theorem ok2 : DefOk tx n2 := ⟨by decide, ⟨rfl, rfl, rfl, by decide +kernel, rfl, by decide +kernel, by decide +kernel⟩, b2⟩
/-- is_sum: value, many, product, _, row -/
def d3 : DenS := sSeq (sIf (tGc (tOo (tNt (tVal (xCall 0 (aCons (xVar 1) (aCons (xLit (.int 0)) (aCons (xLit (.int 40)) (aNil))))))) (tOo (tNt (tVal (xCall 2 (aCons (xVar 0) (aNil))))) (tB (xBin opGt (xCallF bLen (aCons (xVar 0) (aNil))) (xLit (.int 2000))))))) (sRet (xGc (xLit (.bl false)))) (sNil)) (sSeq (sFor (iAny (xVar 0)) (.tp [.nm 2, .nm 3]) (sSeq (sIf (tGc (tOo (tNt (tVal (xCall 2 (aCons (xVar 2) (aNil))))) (tNt (tVal (xCallF bAll (aCons (xLc (iAny (xVar 2)) (.tp [.nm 4, .nm 3]) (tYesD) (xGc (xCall 0 (aCons (xVar 4) (aCons (xLit (.int 0)) (aCons (xBin opSub (xVar 1) (xLit (.int 1))) (aNil)))))) [4, 3]) (aNil))))))) (sRet (xGc (xLit (.bl false)))) (sNil)) (sIf (tGc (tNt (tVal (xCall 1 (aCons (xLc (iAny (xVar 2)) (.tp [.nm 4, .nm 3]) (tYesD) (xGc (xVar 4)) [4, 3]) (aNil)))))) (sRet (xGc (xLit (.bl false)))) (sNil)))) (sRet (xGc (xCall 1 (aCons (xLc (iAny (xVar 0)) (.tp [.nm 2, .nm 3]) (tYesD) (xGc (xVar 2)) [2, 3]) (aNil))))))
def n3 : Dn := ⟨"is_sum", top 12, 2, ["value", "many", "product", "_", "row"], d3⟩
theorem b3 : BodyOk tx n3 := by
  intro G fe k P w K mg base f cdv A outer s H E h
  show PSs _ _ (tS _ _ _ d3)
  exact (sseq_ok (sif_ok (tgc_ok ((too_ok (h.toOk.tn (h.toOk.tv (h.toOk.call 0 (h.toOk.ac (h.toOk.v 1) (h.toOk.ac (h.toOk.int) (h.toOk.ac (h.toOk.cn 0) (anil_ok))))))) (too_ok (h.toOk.tn (h.toOk.tv (h.toOk.call 2 (h.toOk.ac (h.toOk.v 0) (anil_ok))))) (too1_ok (h.toOk.tgt (h.toOk.bi (bLen_ok h.toOk.on) 6 (h.toOk.ac (h.toOk.v 0) (anil_ok)) PySem.boot_len) (h.toOk.cn 1))))).pt)) (sone_ok (sret_ok (xgc_ok (h.toOk.bo)))) (snil_ok)) (sseq_ok (h.for_ (h.toOk.it (h.toOk.v 0)) (h.toOk.tpl (h.toOk.pc (h.toOk.nm 2) (h.toOk.pc (h.toOk.nm 3) (pnil_ok)))) (sseq_ok (sif_ok (tgc_ok ((too_ok (h.toOk.tn (h.toOk.tv (h.toOk.call 2 (h.toOk.ac (h.toOk.v 2) (anil_ok))))) (too1_ok (h.toOk.tn (h.toOk.tv (h.toOk.bi (bAll_ok h.toOk.on h.toOk.calm) 4 (h.toOk.ac (h.toOk.lc (own := [("row", 4), ("_", 3)]) (blkOk_by (by kernel_rfl)) (h.toOk.it (h.toOk.v 2)) (fun _ _ _ _ _ h3 => h3.tpl (h3.pc (h3.nm 4) (h3.pc (h3.nm 3) (pnil_ok)))) (fun _ _ _ _ _ h3 => tyes_ok) (fun _ _ _ _ _ h3 => xgc_ok (h3.call 0 (h3.ac (h3.v 4) (h3.ac (h3.int) (h3.ac (h3.sub (h3.v 1) (h3.int)) (anil_ok))))))) (anil_ok)) (by decide +kernel)))))).pt)) (sone_ok (sret_ok (xgc_ok (h.toOk.bo)))) (snil_ok)) (sone_ok (sif_ok (tgc_ok (h.toOk.tn (h.toOk.tv (h.toOk.call 1 (h.toOk.ac (h.toOk.lc (own := [("row", 4), ("_", 3)]) (blkOk_by (by kernel_rfl)) (h.toOk.it (h.toOk.v 2)) (fun _ _ _ _ _ h2 => h2.tpl (h2.pc (h2.nm 4) (h2.pc (h2.nm 3) (pnil_ok)))) (fun _ _ _ _ _ h2 => tyes_ok) (fun _ _ _ _ _ h2 => xgc_ok (h2.v 4))) (anil_ok)))))) (sone_ok (sret_ok (xgc_ok (h.toOk.bo)))) (snil_ok))))) (sone_ok (sret_ok (xgc_ok (h.toOk.call 1 (h.toOk.ac (h.toOk.lc (own := [("product", 2), ("_", 3)]) (blkOk_by (by kernel_rfl)) (h.toOk.it (h.toOk.v 0)) (fun _ _ _ _ _ h1 => h1.tpl (h1.pc (h1.nm 2) (h1.pc (h1.nm 3) (pnil_ok)))) (fun _ _ _ _ _ h1 => tyes_ok) (fun _ _ _ _ _ h1 => xgc_ok (h1.v 2))) (anil_ok))))))))
theorem ok3 : DefOk tx n3 := ⟨by decide, ⟨rfl, rfl, rfl, by decide +kernel, rfl, by decide +kernel, by decide +kernel⟩, b3⟩
/-- check_sum: value -/
def d4 : DenS := sIf (tGc (tNt (tVal (xCall 3 (aCons (xVar 0) (aCons (xLit (.int 40)) (aNil))))))) (sRaise0 1) (sNil)
def n4 : Dn := ⟨"check_sum", top 13, 1, ["value"], d4⟩
theorem b4 : BodyOk tx n4 := by
  intro G fe k P w K mg base f cdv A outer s H E h
  show PSs _ _ (tS _ _ _ d4)
  exact (sone_ok (sif_ok (tgc_ok (h.toOk.tn (h.toOk.tv (h.toOk.call 3 (h.toOk.ac (h.toOk.v 0) (h.toOk.ac (h.toOk.cn 0) (anil_ok))))))) (sone_ok (h.raise0 1)) (snil_ok)))
theorem ok4 : DefOk tx n4 := ⟨by decide, ⟨rfl, rfl, rfl, by decide +kernel, rfl, by decide +kernel, by decide +kernel⟩, b4⟩
/-- summed: counts -/
def d5 : DenS := sSeq (sIf (tGc (tB (xBin opGt (xCallF bLen (aCons (xVar 0) (aNil))) (xLit (.int 2000))))) (sRaise0 2) (sNil)) (sRet (xGc (xCallF bTuple (aCons (xItemsF bSortItems (xVar 0)) (aNil)))))
def n5 : Dn := ⟨"summed", top 14, 1, ["counts"], d5⟩
theorem b5 : BodyOk tx n5 := by
  intro G fe k P w K mg base f cdv A outer s H E h
  show PSs _ _ (tS _ _ _ d5)
  exact (sseq_ok (sif_ok (tgc_ok (h.toOk.tgt (h.toOk.bi (bLen_ok h.toOk.on) 6 (h.toOk.ac (h.toOk.v 0) (anil_ok)) PySem.boot_len) (h.toOk.cn 1))) (sone_ok (h.raise0 2)) (snil_ok)) (sone_ok (sret_ok (xgc_ok (h.toOk.ty (bTuple_ok h.toOk.on) 5 (h.toOk.ac (h.toOk.sortItems 7 (h.toOk.v 0)) (anil_ok)) boot_tuple)))))
theorem ok5 : DefOk tx n5 := ⟨by decide, ⟨rfl, rfl, rfl, by decide +kernel, rfl, by decide +kernel, by decide +kernel⟩, b5⟩
/-- times_products: one, other, found, row, times -/
def d6 : DenS := sSeq (sSet 2 (xGc (xCallF bDictP (aCons (xVar 0) (aNil))))) (sSeq (sFor (iAny (xVar 1)) (.tp [.nm 3, .nm 4]) (sSub (xVar 2) (xGc (xVar 3)) (xGc (xBin opAdd (xMeth [("dict", fGet)] (xVar 2) (aCons (xVar 3) (aCons (xLit (.int 0)) (aNil)))) (xVar 4))))) (sRet (xGc (xCallF bTuple (aCons (xItemsF bSortItems (xVar 2)) (aNil))))))
def n6 : Dn := ⟨"times_products", top 15, 2, ["one", "other", "found", "row", "times"], d6⟩
theorem b6 : BodyOk tx n6 := by
  intro G fe k P w K mg base f cdv A outer s H E h
  show PSs _ _ (tS _ _ _ d6)
  exact (sseq_ok (h.set 2 (xgc_ok (h.toOk.ty (bDictP_ok h.toOk.on h.toOk.calm h.toOk.u64) 8 (h.toOk.ac (h.toOk.v 0) (anil_ok)) boot_dict))) (sseq_ok (h.for_ (h.toOk.it (h.toOk.v 1)) (h.toOk.tpl (h.toOk.pc (h.toOk.nm 3) (h.toOk.pc (h.toOk.nm 4) (pnil_ok)))) (sone_ok (h.sub (xgc_ok (h.toOk.add (h.toOk.mt1 (fGet_ok h.toOk.on h.toOk.u64) (h.toOk.v 2) (h.toOk.ac (h.toOk.v 3) (h.toOk.ac (h.toOk.int) (anil_ok)))) (h.toOk.v 4))) (h.toOk.v 2) (xgc_ok (h.toOk.v 3))))) (sone_ok (sret_ok (xgc_ok (h.toOk.ty (bTuple_ok h.toOk.on) 5 (h.toOk.ac (h.toOk.sortItems 7 (h.toOk.v 2)) (anil_ok)) boot_tuple))))))
theorem ok6 : DefOk tx n6 := ⟨by decide, ⟨rfl, rfl, rfl, by decide +kernel, rfl, by decide +kernel, by decide +kernel⟩, b6⟩
/-- times: a, b, found, one, number, other, many, product -/
def d7 : DenS := sSeq (sExpr (xGc (xCall 4 (aCons (xVar 0) (aNil))))) (sSeq (sExpr (xGc (xCall 4 (aCons (xVar 1) (aNil))))) (sSeq (sSet 2 (xGc (xEmpty))) (sSeq (sFor (iAny (xVar 0)) (.tp [.nm 3, .nm 4]) (sSeq (sFor (iAny (xVar 1)) (.tp [.nm 5, .nm 6]) (sSeq (sSet 7 (xGc (xCall 6 (aCons (xVar 3) (aCons (xVar 5) (aNil)))))) (sSub (xVar 2) (xGc (xVar 7)) (xGc (xBin opAdd (xMeth [("dict", fGet)] (xVar 2) (aCons (xVar 7) (aCons (xLit (.int 0)) (aNil)))) (xBin opMul (xVar 4) (xVar 6))))))) (sIf (tGc (tB (xBin opGt (xCallF bLen (aCons (xVar 2) (aNil))) (xLit (.int 2000))))) (sRaise0 2) (sNil)))) (sRet (xGc (xCall 5 (aCons (xVar 2) (aNil))))))))
def n7 : Dn := ⟨"times", top 16, 2, ["a", "b", "found", "one", "number", "other", "many", "product"], d7⟩
theorem b7 : BodyOk tx n7 := by
  intro G fe k P w K mg base f cdv A outer s H E h
  show PSs _ _ (tS _ _ _ d7)
  exact (sseq_ok (sx (xgc_ok (h.toOk.call 4 (h.toOk.ac (h.toOk.v 0) (anil_ok))))) (sseq_ok (sx (xgc_ok (h.toOk.call 4 (h.toOk.ac (h.toOk.v 1) (anil_ok))))) (sseq_ok (h.set 2 (xgc_ok (xempty_ok))) (sseq_ok (h.for_ (h.toOk.it (h.toOk.v 0)) (h.toOk.tpl (h.toOk.pc (h.toOk.nm 3) (h.toOk.pc (h.toOk.nm 4) (pnil_ok)))) (sseq_ok (h.for_ (h.toOk.it (h.toOk.v 1)) (h.toOk.tpl (h.toOk.pc (h.toOk.nm 5) (h.toOk.pc (h.toOk.nm 6) (pnil_ok)))) (sseq_ok (h.set 7 (xgc_ok (h.toOk.call 6 (h.toOk.ac (h.toOk.v 3) (h.toOk.ac (h.toOk.v 5) (anil_ok)))))) (sone_ok (h.sub (xgc_ok (h.toOk.add (h.toOk.mt1 (fGet_ok h.toOk.on h.toOk.u64) (h.toOk.v 2) (h.toOk.ac (h.toOk.v 7) (h.toOk.ac (h.toOk.int) (anil_ok)))) (h.toOk.mul (h.toOk.v 4) (h.toOk.v 6)))) (h.toOk.v 2) (xgc_ok (h.toOk.v 7)))))) (sone_ok (sif_ok (tgc_ok (h.toOk.tgt (h.toOk.bi (bLen_ok h.toOk.on) 6 (h.toOk.ac (h.toOk.v 2) (anil_ok)) PySem.boot_len) (h.toOk.cn 1))) (sone_ok (h.raise0 2)) (snil_ok))))) (sone_ok (sret_ok (xgc_ok (h.toOk.call 5 (h.toOk.ac (h.toOk.v 2) (anil_ok))))))))))
theorem ok7 : DefOk tx n7 := ⟨by decide, ⟨rfl, rfl, rfl, by decide +kernel, rfl, by decide +kernel, by decide +kernel⟩, b7⟩
/-- put: whole, sums, found, factors, number, told, row, often, _, product, many -/
def d8 : DenS := sSeq (sSet 2 (xGc (xEmpty))) (sSeq (sFor (iAny (xVar 0)) (.tp [.nm 3, .nm 4]) (sSeq (sSet 5 (xGc (xLit (.tup [(.tup [(.tup []), (.int 1)])])))) (sSeq (sFor (iAny (xVar 3)) (.tp [.nm 6, .nm 7]) (sFor (iRange1 (aCons (xVar 7) (aNil))) (.nm 8) (sSet 5 (xGc (xCall 7 (aCons (xVar 5) (aCons (xBin opIx (xVar 1) (xVar 6)) (aNil)))))))) (sSeq (sFor (iAny (xVar 5)) (.tp [.nm 9, .nm 10]) (sSub (xVar 2) (xGc (xVar 9)) (xGc (xBin opAdd (xMeth [("dict", fGet)] (xVar 2) (aCons (xVar 9) (aCons (xLit (.int 0)) (aNil)))) (xBin opMul (xVar 10) (xVar 4)))))) (sIf (tGc (tB (xBin opGt (xCallF bLen (aCons (xVar 2) (aNil))) (xLit (.int 2000))))) (sRaise0 2) (sNil)))))) (sRet (xGc (xCall 5 (aCons (xVar 2) (aNil))))))
def n8 : Dn := ⟨"put", top 18, 2, ["whole", "sums", "found", "factors", "number", "told", "row", "often", "_", "product", "many"], d8⟩
theorem b8 : BodyOk tx n8 := by
  intro G fe k P w K mg base f cdv A outer s H E h
  show PSs _ _ (tS _ _ _ d8)
  exact (sseq_ok (h.set 2 (xgc_ok (xempty_ok))) (sseq_ok (h.for_ (h.toOk.it (h.toOk.v 0)) (h.toOk.tpl (h.toOk.pc (h.toOk.nm 3) (h.toOk.pc (h.toOk.nm 4) (pnil_ok)))) (sseq_ok (h.set 5 (xgc_ok (h.toOk.cn 2))) (sseq_ok (h.for_ (h.toOk.it (h.toOk.v 3)) (h.toOk.tpl (h.toOk.pc (h.toOk.nm 6) (h.toOk.pc (h.toOk.nm 7) (pnil_ok)))) (sone_ok (h.for_ (h.toOk.rg1 9 (h.toOk.ac (h.toOk.v 7) (anil_ok))) (h.toOk.nm 8) (sone_ok (h.set 5 (xgc_ok (h.toOk.call 7 (h.toOk.ac (h.toOk.v 5) (h.toOk.ac (h.toOk.ix (h.toOk.v 1) (h.toOk.v 6)) (anil_ok)))))))))) (sseq_ok (h.for_ (h.toOk.it (h.toOk.v 5)) (h.toOk.tpl (h.toOk.pc (h.toOk.nm 9) (h.toOk.pc (h.toOk.nm 10) (pnil_ok)))) (sone_ok (h.sub (xgc_ok (h.toOk.add (h.toOk.mt1 (fGet_ok h.toOk.on h.toOk.u64) (h.toOk.v 2) (h.toOk.ac (h.toOk.v 9) (h.toOk.ac (h.toOk.int) (anil_ok)))) (h.toOk.mul (h.toOk.v 10) (h.toOk.v 4)))) (h.toOk.v 2) (xgc_ok (h.toOk.v 9))))) (sone_ok (sif_ok (tgc_ok (h.toOk.tgt (h.toOk.bi (bLen_ok h.toOk.on) 6 (h.toOk.ac (h.toOk.v 2) (anil_ok)) PySem.boot_len) (h.toOk.cn 1))) (sone_ok (h.raise0 2)) (snil_ok))))))) (sone_ok (sret_ok (xgc_ok (h.toOk.call 5 (h.toOk.ac (h.toOk.v 2) (anil_ok))))))))
theorem ok8 : DefOk tx n8 := ⟨by decide, ⟨rfl, rfl, rfl, by decide +kernel, rfl, by decide +kernel, by decide +kernel⟩, b8⟩
/-- sum_in: whole, sums, one, factors, _, row -/
def d9 : DenS := sSeq (sIf (tGc (tOo (tNt (tVal (xCall 3 (aCons (xVar 0) (aCons (xLit (.int 40)) (aNil)))))) (tNt (tVal (xIsi ["tuple"] (xVar 1)))))) (sRaise0 1) (sNil)) (sSeq (sIf (tGc (tNt (tVal (xCallF bAll (aCons (xLc (iAny (xVar 1)) (.nm 2) (tYesD) (xGc (xCall 3 (aCons (xVar 2) (aCons (xLit (.int 40)) (aNil))))) [2]) (aNil)))))) (sRaise0 1) (sNil)) (sSeq (sIf (tGc (tNt (tVal (xCallF bAll (aCons (xLc2 (iAny (xVar 0)) (.tp [.nm 3, .nm 4]) (tYesD) (iAny (xVar 3)) (.tp [.nm 5, .nm 4]) (tYesD) (xGc (xBin opLt (xVar 5) (xCallF bLen (aCons (xVar 1) (aNil))))) [3, 4, 5] [5, 4]) (aNil)))))) (sRaise0 1) (sNil)) (sRet (xGc (xCall 8 (aCons (xVar 0) (aCons (xVar 1) (aNil))))))))
def n9 : Dn := ⟨"sum_in", top 19, 2, ["whole", "sums", "one", "factors", "_", "row"], d9⟩
theorem b9 : BodyOk tx n9 := by
  intro G fe k P w K mg base f cdv A outer s H E h
  show PSs _ _ (tS _ _ _ d9)
  exact (sseq_ok (sif_ok (tgc_ok ((too_ok (h.toOk.tn (h.toOk.tv (h.toOk.call 3 (h.toOk.ac (h.toOk.v 0) (h.toOk.ac (h.toOk.cn 0) (anil_ok)))))) (too1_ok (h.toOk.tn (h.toOk.tv (h.toOk.isi 0 5 (h.toOk.v 1) boot_tuple))))).pt)) (sone_ok (h.raise0 1)) (snil_ok)) (sseq_ok (sif_ok (tgc_ok (h.toOk.tn (h.toOk.tv (h.toOk.bi (bAll_ok h.toOk.on h.toOk.calm) 4 (h.toOk.ac (h.toOk.lc (own := [("one", 2)]) (blkOk_by (by kernel_rfl)) (h.toOk.it (h.toOk.v 1)) (fun _ _ _ _ _ h2 => h2.nm 2) (fun _ _ _ _ _ h2 => tyes_ok) (fun _ _ _ _ _ h2 => xgc_ok (h2.call 3 (h2.ac (h2.v 2) (h2.ac (h2.cn 0) (anil_ok)))))) (anil_ok)) (by decide +kernel))))) (sone_ok (h.raise0 1)) (snil_ok)) (sseq_ok (sif_ok (tgc_ok (h.toOk.tn (h.toOk.tv (h.toOk.bi (bAll_ok h.toOk.on h.toOk.calm) 4 (h.toOk.ac (h.toOk.lc2 (own := [("factors", 3), ("_", 4), ("row", 5)]) [5, 4] (blkOk_by (by kernel_rfl)) (h.toOk.it (h.toOk.v 0)) (fun _ _ _ _ _ h1 => h1.tpl (h1.pc (h1.nm 3) (h1.pc (h1.nm 4) (pnil_ok)))) (fun _ _ _ _ _ h1 => tyes_ok) (fun _ _ _ _ _ h1 => h1.it (h1.v 3)) (fun _ _ _ _ _ h1 => h1.tpl (h1.pc (h1.nm 5) (h1.pc (h1.nm 4) (pnil_ok)))) (fun _ _ _ _ _ h1 => tyes_ok) (fun _ _ _ _ _ h1 => xgc_ok (h1.lt (h1.v 5) (h1.bi (bLen_ok h1.on) 6 (h1.ac (h1.v 1) (anil_ok)) PySem.boot_len)))) (anil_ok)) (by decide +kernel))))) (sone_ok (h.raise0 1)) (snil_ok)) (sone_ok (sret_ok (xgc_ok (h.toOk.call 8 (h.toOk.ac (h.toOk.v 0) (h.toOk.ac (h.toOk.v 1) (anil_ok))))))))))
theorem ok9 : DefOk tx n9 := ⟨by decide, ⟨rfl, rfl, rfl, by decide +kernel, rfl, by decide +kernel, by decide +kernel⟩, b9⟩
/-- _law_tape: script, seed, cell -/
def d10 : DenS := sSeq (sSet 1 (xGc (xLit (.int 7)))) (sSeq (sFor (iAny (xVar 0)) (.nm 2) (sSet 1 (xGc (xBin opMod (xCallF bInt (aCons (xBin opAdd (xBin opMul (xVar 1) (xLit (.int 31))) (xVar 2)) (aNil))) (xLit (.int 1000003)))))) (sRet (xGc (xLst (aCons (xLc (iAny (xVar 0)) (.nm 2) (tYesD) (xGc (xCallF bAbs (aCons (xCallF bInt (aCons (xVar 2) (aNil))) (aNil)))) [2]) (aCons (xBin opAdd (xVar 1) (xLit (.int 1))) (aNil)))))))
def n10 : Dn := ⟨"_law_tape", top 21, 1, ["script", "seed", "cell"], d10⟩
theorem b10 : BodyOk tx n10 := by
  intro G fe k P w K mg base f cdv A outer s H E h
  show PSs _ _ (tS _ _ _ d10)
  exact (sseq_ok (h.set 1 (xgc_ok (h.toOk.int))) (sseq_ok (h.for_ (h.toOk.it (h.toOk.v 0)) (h.toOk.nm 2) (sone_ok (h.set 1 (xgc_ok (h.toOk.mod (h.toOk.ty (bInt_ok h.toOk.on) 1 (h.toOk.ac (h.toOk.add (h.toOk.mul (h.toOk.v 1) (h.toOk.int)) (h.toOk.v 2)) (anil_ok)) boot_int) (h.toOk.int)))))) (sone_ok (sret_ok (xgc_ok (xlst_ok (h.toOk.ac (h.toOk.lc (own := [("cell", 2)]) (blkOk_by (by kernel_rfl)) (h.toOk.it (h.toOk.v 0)) (fun _ _ _ _ _ h1 => h1.nm 2) (fun _ _ _ _ _ h1 => tyes_ok) (fun _ _ _ _ _ h1 => xgc_ok (h1.bi (bAbs_ok h1.on) 10 (h1.ac (h1.ty (bInt_ok h1.on) 1 (h1.ac (h1.v 2) (anil_ok)) boot_int) (anil_ok)) (by decide +kernel)))) (h.toOk.ac (h.toOk.add (h.toOk.v 1) (h.toOk.int)) (anil_ok)))))))))
theorem ok10 : DefOk tx n10 := ⟨by decide, ⟨rfl, rfl, rfl, by decide +kernel, rfl, by decide +kernel, by decide +kernel⟩, b10⟩
/-- _law_draw: tape, many, cells, number -/
noncomputable def d11 : DenS := sSeq (sSet 2 (xGc (xBin opIx (xVar 0) (xLit (.int 0))))) (sSeq (sWhile (tGc (tAn (tB (xBin opGt (xCallF bLen (aCons (xVar 2) (aNil))) (xLit (.int 0)))) (tB (xBin opEq (xBin opIx (xVar 2) (xLit (.int 0))) (xLit (.int 0)))))) (sExpr (xGc (xMeth [("list", fPop)] (xVar 2) (aCons (xLit (.int 0)) (aNil)))))) (sSeq (sIf (tGc (tB (xBin opGt (xCallF bLen (aCons (xVar 2) (aNil))) (xLit (.int 0))))) (sSeq (sSet 3 (xGc (xBin opIx (xVar 2) (xLit (.int 0))))) (sSeq (sSub (xVar 2) (xGc (xLit (.int 0))) (xGc (xBin opFdiv (xVar 3) (xVar 1)))) (sRet (xGc (xBin opMod (xCallF bInt (aCons (xVar 3) (aNil))) (xVar 1)))))) (sNil)) (sSeq (sSub (xVar 0) (xGc (xLit (.int 1))) (xGc (xBin opMod (xCallF bInt (aCons (xBin opAdd (xBin opMul (xBin opIx (xVar 0) (xLit (.int 1))) (xLit (.int 48271))) (xLit (.int 12345))) (aNil))) (xLit (.int 2147483647))))) (sRet (xGc (xBin opMod (xCallF bInt (aCons (xBin opFdiv (xBin opIx (xVar 0) (xLit (.int 1))) (xLit (.int 64))) (aNil))) (xVar 1)))))))
noncomputable def n11 : Dn := ⟨"_law_draw", top 22, 2, ["tape", "many", "cells", "number"], d11⟩
theorem b11 : BodyOk tx n11 := by
  intro G fe k P w K mg base f cdv A outer s H E h
  show PSs _ _ (tS _ _ _ d11)
  exact (sseq_ok (h.set 2 (xgc_ok (h.toOk.ix (h.toOk.v 0) (h.toOk.int)))) (sseq_ok (h.while_ (tgc_ok ((tan_ok (h.toOk.tgt (h.toOk.bi (bLen_ok h.toOk.on) 6 (h.toOk.ac (h.toOk.v 2) (anil_ok)) PySem.boot_len) (h.toOk.int)) (tan1_ok (h.toOk.teq (h.toOk.ix (h.toOk.v 2) (h.toOk.int)) (h.toOk.int)))).pt)) (sone_ok (sx (xgc_ok (h.toOk.mt1 (fPop_ok h.toOk.on) (h.toOk.v 2) (h.toOk.ac (h.toOk.int) (anil_ok))))))) (sseq_ok (sif_ok (tgc_ok (h.toOk.tgt (h.toOk.bi (bLen_ok h.toOk.on) 6 (h.toOk.ac (h.toOk.v 2) (anil_ok)) PySem.boot_len) (h.toOk.int))) (sseq_ok (h.set 3 (xgc_ok (h.toOk.ix (h.toOk.v 2) (h.toOk.int)))) (sseq_ok (h.sub (xgc_ok (h.toOk.fdiv (h.toOk.v 3) (h.toOk.v 1))) (h.toOk.v 2) (xgc_ok (h.toOk.int))) (sone_ok (sret_ok (xgc_ok (h.toOk.mod (h.toOk.ty (bInt_ok h.toOk.on) 1 (h.toOk.ac (h.toOk.v 3) (anil_ok)) boot_int) (h.toOk.v 1))))))) (snil_ok)) (sseq_ok (h.sub (xgc_ok (h.toOk.mod (h.toOk.ty (bInt_ok h.toOk.on) 1 (h.toOk.ac (h.toOk.add (h.toOk.mul (h.toOk.ix (h.toOk.v 0) (h.toOk.int)) (h.toOk.int)) (h.toOk.int)) (anil_ok)) boot_int) (h.toOk.int))) (h.toOk.v 0) (xgc_ok (h.toOk.int))) (sone_ok (sret_ok (xgc_ok (h.toOk.mod (h.toOk.ty (bInt_ok h.toOk.on) 1 (h.toOk.ac (h.toOk.fdiv (h.toOk.ix (h.toOk.v 0) (h.toOk.int)) (h.toOk.int)) (anil_ok)) boot_int) (h.toOk.v 1)))))))))
theorem ok11 : DefOk tx n11 := ⟨by decide, ⟨rfl, rfl, rfl, by decide +kernel, rfl, by decide +kernel, by decide +kernel⟩, b11⟩
/-- _law_pick: tape, row -/
def d12 : DenS := sRet (xGc (xBin opIx (xVar 1) (xCall 11 (aCons (xVar 0) (aCons (xCallF bLen (aCons (xVar 1) (aNil))) (aNil))))))
def n12 : Dn := ⟨"_law_pick", top 23, 2, ["tape", "row"], d12⟩
theorem b12 : BodyOk tx n12 := by
  intro G fe k P w K mg base f cdv A outer s H E h
  show PSs _ _ (tS _ _ _ d12)
  exact (sone_ok (sret_ok (xgc_ok (h.toOk.ix (h.toOk.v 1) (h.toOk.call 11 (h.toOk.ac (h.toOk.v 0) (h.toOk.ac (h.toOk.bi (bLen_ok h.toOk.on) 6 (h.toOk.ac (h.toOk.v 1) (anil_ok)) PySem.boot_len) (anil_ok))))))))
theorem ok12 : DefOk tx n12 := ⟨by decide, ⟨rfl, rfl, rfl, by decide +kernel, rfl, by decide +kernel, by decide +kernel⟩, b12⟩
/-- _law_same: told, due, k -/
def d13 : DenS := sSeq (sIf (tGc (tB (xBin opIs (xVar 1) (xLit .non)))) (sRet (xGc (xBin opIs (xVar 0) (xLit .non)))) (sNil)) (sSeq (sIf (tGc (tVal (xIsi ["bool"] (xVar 1)))) (sRet (xGc (xAnd (xIsi ["bool"] (xVar 0)) (xBin opEq (xVar 0) (xVar 1))))) (sNil)) (sSeq (sIf (tGc (tVal (xIsi ["int"] (xVar 1)))) (sRet (xGc (xAnd (xIsi ["int"] (xVar 0)) (xAnd (xNot (xIsi ["bool"] (xVar 0))) (xBin opEq (xVar 0) (xVar 1)))))) (sNil)) (sSeq (sIf (tGc (tVal (xIsi ["str"] (xVar 1)))) (sRet (xGc (xAnd (xIsi ["str"] (xVar 0)) (xBin opEq (xVar 0) (xVar 1))))) (sNil)) (sSeq (sIf (tGc (tOo (tB (xBin opNe (xIsi ["tuple"] (xVar 1)) (xIsi ["tuple"] (xVar 0)))) (tB (xBin opNe (xIsi ["list"] (xVar 1)) (xIsi ["list"] (xVar 0)))))) (sRet (xGc (xLit (.bl false)))) (sNil)) (sSeq (sIf (tGc (tOo (tNt (tVal (xIsi ["tuple", "list"] (xVar 0)))) (tB (xBin opNe (xCallF bLen (aCons (xVar 0) (aNil))) (xCallF bLen (aCons (xVar 1) (aNil))))))) (sRet (xGc (xLit (.bl false)))) (sNil)) (sRet (xGc (xBin opNotIn (xLit (.bl false)) (xLc (iRange1 (aCons (xCallF bLen (aCons (xVar 1) (aNil))) (aNil))) (.nm 2) (tYesD) (xGc (xCall 13 (aCons (xBin opIx (xVar 0) (xVar 2)) (aCons (xBin opIx (xVar 1) (xVar 2)) (aNil))))) [2])))))))))
def n13 : Dn := ⟨"_law_same", top 24, 2, ["told", "due", "k"], d13⟩
theorem b13 : BodyOk tx n13 := by
  intro G fe k P w K mg base f cdv A outer s H E h
  show PSs _ _ (tS _ _ _ d13)
  exact (sseq_ok (sif_ok (tgc_ok (h.toOk.tis_ (h.toOk.v 1) (h.toOk.non))) (sone_ok (sret_ok (xgc_ok (h.toOk.is_ (h.toOk.v 0) (h.toOk.non))))) (snil_ok)) (sseq_ok (sif_ok (tgc_ok (h.toOk.tv (h.toOk.isi 0 2 (h.toOk.v 1) boot_bool))) (sone_ok (sret_ok (xgc_ok (xand_ok (h.toOk.isi 0 2 (h.toOk.v 0) boot_bool) (pe_one (h.toOk.eq (h.toOk.v 0) (h.toOk.v 1))))))) (snil_ok)) (sseq_ok (sif_ok (tgc_ok (h.toOk.tv (h.toOk.isi 0 1 (h.toOk.v 1) boot_int))) (sone_ok (sret_ok (xgc_ok (xand_ok (h.toOk.isi 0 1 (h.toOk.v 0) boot_int) (xand_ok (xnot_ok (h.toOk.isi 0 2 (h.toOk.v 0) boot_bool)) (pe_one (h.toOk.eq (h.toOk.v 0) (h.toOk.v 1)))))))) (snil_ok)) (sseq_ok (sif_ok (tgc_ok (h.toOk.tv (h.toOk.isi 0 12 (h.toOk.v 1) boot_str))) (sone_ok (sret_ok (xgc_ok (xand_ok (h.toOk.isi 0 12 (h.toOk.v 0) boot_str) (pe_one (h.toOk.eq (h.toOk.v 0) (h.toOk.v 1))))))) (snil_ok)) (sseq_ok (sif_ok (tgc_ok ((too_ok (h.toOk.tne (h.toOk.isi 0 5 (h.toOk.v 1) boot_tuple) (h.toOk.isi 0 5 (h.toOk.v 0) boot_tuple)) (too1_ok (h.toOk.tne (h.toOk.isi 0 11 (h.toOk.v 1) boot_list) (h.toOk.isi 0 11 (h.toOk.v 0) boot_list)))).pt)) (sone_ok (sret_ok (xgc_ok (h.toOk.bo)))) (snil_ok)) (sseq_ok (sif_ok (tgc_ok ((too_ok (h.toOk.tn (h.toOk.tv (h.toOk.isi2 0 5 11 (h.toOk.v 0) boot_tuple boot_list))) (too1_ok (h.toOk.tne (h.toOk.bi (bLen_ok h.toOk.on) 6 (h.toOk.ac (h.toOk.v 0) (anil_ok)) PySem.boot_len) (h.toOk.bi (bLen_ok h.toOk.on) 6 (h.toOk.ac (h.toOk.v 1) (anil_ok)) PySem.boot_len)))).pt)) (sone_ok (sret_ok (xgc_ok (h.toOk.bo)))) (snil_ok)) (sone_ok (sret_ok (xgc_ok (h.toOk.nin (h.toOk.bo) (h.toOk.lc (own := [("k", 2)]) (blkOk_by (by kernel_rfl)) (h.toOk.rg1 9 (h.toOk.ac (h.toOk.bi (bLen_ok h.toOk.on) 6 (h.toOk.ac (h.toOk.v 1) (anil_ok)) PySem.boot_len) (anil_ok))) (fun _ _ _ _ _ h1 => h1.nm 2) (fun _ _ _ _ _ h1 => tyes_ok) (fun _ _ _ _ _ h1 => xgc_ok (h1.call 13 (h1.ac (h1.ix (h1.v 0) (h1.v 2)) (h1.ac (h1.ix (h1.v 1) (h1.v 2)) (anil_ok))))))))))))))))
theorem ok13 : DefOk tx n13 := ⟨by decide, ⟨rfl, rfl, rfl, by decide +kernel, rfl, by decide +kernel, by decide +kernel⟩, b13⟩
/-- _law_times: one, other, found, a, b, product -/
def d14 : DenS := sSeq (sSet 2 (xGc (xEmpty))) (sSeq (sFor (iAny (xVar 0)) (.nm 3) (sFor (iAny (xVar 1)) (.nm 4) (sSeq (sSet 5 (xGc (xCallF bTuple (aCons (xCallF bSorted (aCons (xBin opAdd (xVar 3) (xVar 4)) (aNil))) (aNil))))) (sSub (xVar 2) (xGc (xVar 5)) (xGc (xBin opAdd (xMeth [("dict", fGet)] (xVar 2) (aCons (xVar 5) (aCons (xLit (.int 0)) (aNil)))) (xBin opMul (xBin opIx (xVar 0) (xVar 3)) (xBin opIx (xVar 1) (xVar 4))))))))) (sRet (xGc (xVar 2))))
def n14 : Dn := ⟨"_law_times", top 25, 2, ["one", "other", "found", "a", "b", "product"], d14⟩
theorem b14 : BodyOk tx n14 := by
  intro G fe k P w K mg base f cdv A outer s H E h
  show PSs _ _ (tS _ _ _ d14)
  exact (sseq_ok (h.set 2 (xgc_ok (xempty_ok))) (sseq_ok (h.for_ (h.toOk.it (h.toOk.v 0)) (h.toOk.nm 3) (sone_ok (h.for_ (h.toOk.it (h.toOk.v 1)) (h.toOk.nm 4) (sseq_ok (h.set 5 (xgc_ok (h.toOk.ty (bTuple_ok h.toOk.on) 5 (h.toOk.ac (h.toOk.bi (bSorted_ok h.toOk.on h.toOk.calm h.toOk.u64) 7 (h.toOk.ac (h.toOk.add (h.toOk.v 3) (h.toOk.v 4)) (anil_ok)) boot_sorted) (anil_ok)) boot_tuple))) (sone_ok (h.sub (xgc_ok (h.toOk.add (h.toOk.mt1 (fGet_ok h.toOk.on h.toOk.u64) (h.toOk.v 2) (h.toOk.ac (h.toOk.v 5) (h.toOk.ac (h.toOk.int) (anil_ok)))) (h.toOk.mul (h.toOk.ix (h.toOk.v 0) (h.toOk.v 3)) (h.toOk.ix (h.toOk.v 1) (h.toOk.v 4))))) (h.toOk.v 2) (xgc_ok (h.toOk.v 5)))))))) (sone_ok (sret_ok (xgc_ok (h.toOk.v 2))))))
theorem ok14 : DefOk tx n14 := ⟨by decide, ⟨rfl, rfl, rfl, by decide +kernel, rfl, by decide +kernel, by decide +kernel⟩, b14⟩
/-- _law_shown: told, rows, product, row -/
def d15 : DenS := sSeq (sSet 1 (xLc (iAny (xVar 0)) (.nm 2) (tYesD) (xGc (xTup (aCons (xCallF bTuple (aCons (xLc (iAny (xSortSet (xVar 2))) (.nm 3) (tYesD) (xGc (xTup (aCons (xVar 3) (aCons (xMeth [("list", fCountL), ("tuple", fCountT)] (xVar 2) (aCons (xVar 3) (aNil))) (aNil))))) [3]) (aNil))) (aCons (xBin opIx (xVar 0) (xVar 2)) (aNil))))) [2])) (sRet (xGc (xCallF bTuple (aCons (xCallF bSorted (aCons (xVar 1) (aNil))) (aNil)))))
def n15 : Dn := ⟨"_law_shown", top 26, 1, ["told", "rows", "product", "row"], d15⟩
theorem b15 : BodyOk tx n15 := by
  intro G fe k P w K mg base f cdv A outer s H E h
  show PSs _ _ (tS _ _ _ d15)
  exact (sseq_ok (h.setLc (own := [("product", 2)]) 1 (blkOk_by (by kernel_rfl)) (h.toOk.it (h.toOk.v 0)) (fun _ _ _ _ _ h1 => h1.nm 2) (fun _ _ _ _ _ h1 => tyes_ok) (fun _ _ _ _ _ h1 => xgc_ok (xtup_ok (h1.ac (h1.ty (bTuple_ok h1.on) 5 (h1.ac (h1.lc (own := [("row", 3)]) (blkOk_by (by kernel_rfl)) (h1.it (h1.sortSet 7 13 (h1.v 2))) (fun _ _ _ _ _ h2 => h2.nm 3) (fun _ _ _ _ _ h2 => tyes_ok) (fun _ _ _ _ _ h2 => xgc_ok (xtup_ok (h2.ac (h2.v 3) (h2.ac (h2.mt2 (fCountL_ok h2.on h2.u64) (fCountT_ok h2.on h2.u64) (h2.v 2) (h2.ac (h2.v 3) (anil_ok))) (anil_ok)))))) (anil_ok)) boot_tuple) (h1.ac (h1.ix (h1.v 0) (h1.v 2)) (anil_ok))))) (sw_true rfl rfl rfl (by decide +kernel))) (sone_ok (sret_ok (xgc_ok (h.toOk.ty (bTuple_ok h.toOk.on) 5 (h.toOk.ac (h.toOk.bi (bSorted_ok h.toOk.on h.toOk.calm h.toOk.u64) 7 (h.toOk.ac (h.toOk.v 1) (anil_ok)) boot_sorted) (anil_ok)) boot_tuple)))))
theorem ok15 : DefOk tx n15 := ⟨by decide, ⟨rfl, rfl, rfl, by decide +kernel, rfl, by decide +kernel, by decide +kernel⟩, b15⟩
/-- _law_call: whole, sums, found -/
def d16 : DenS := sSeq (sTry (sSet 2 (xGc (xCall 9 (aCons (xVar 0) (aCons (xVar 1) (aNil)))))) [.plain (tx.of 1) (sRet (xLit (.str "sum"))), .plain (tx.of 2) (sRet (xLit (.str "far")))]) (sRet (xGc (xVar 2)))
def n16 : Dn := ⟨"_law_call", top 27, 2, ["whole", "sums", "found"], d16⟩
theorem b16 : BodyOk tx n16 := by
  intro G fe k P w K mg base f cdv A outer s H E h
  show PSs _ _ (tS _ _ _ d16)
  exact (sseq_ok (h.try_ (fun _ _ _ h1 => sone_ok (h1.set 2 (xgc_ok (h1.toOk.call 9 (h1.toOk.ac (h1.toOk.v 0) (h1.toOk.ac (h1.toOk.v 1) (anil_ok))))))) (h.hplain 1 (h.hplain 2 (h.hnil) (fun _ _ _ => sone_ok (sret_ok str0))) (fun _ _ _ => sone_ok (sret_ok str0)))) (sone_ok (sret_ok (xgc_ok (h.toOk.v 2)))))
theorem ok16 : DefOk tx n16 := ⟨by decide, ⟨rfl, rfl, rfl, by decide +kernel, rfl, by decide +kernel, by decide +kernel⟩, b16⟩
/-- _law_sum: tape, many, most, found, turn, product, k -/
def d17 : DenS := sSeq (sSet 3 (xGc (xEmpty))) (sSeq (sFor (iRange1 (aCons (xCall 11 (aCons (xVar 0) (aCons (xBin opAdd (xVar 2) (xLit (.int 1))) (aNil)))) (aNil))) (.nm 4) (sSeq (sSet 5 (xGc (xCallF bTuple (aCons (xCallF bSorted (aCons (xLc (iRange1 (aCons (xCall 11 (aCons (xVar 0) (aCons (xLit (.int 4)) (aNil)))) (aNil))) (.nm 6) (tYesD) (xGc (xCall 11 (aCons (xVar 0) (aCons (xVar 1) (aNil))))) [6]) (aNil))) (aNil))))) (sSub (xVar 3) (xGc (xVar 5)) (xGc (xBin opAdd (xBin opAdd (xMeth [("dict", fGet)] (xVar 3) (aCons (xVar 5) (aCons (xLit (.int 0)) (aNil)))) (xLit (.int 1))) (xCall 11 (aCons (xVar 0) (aCons (xLit (.int 3)) (aNil))))))))) (sRet (xGc (xVar 3))))
def n17 : Dn := ⟨"_law_sum", top 28, 3, ["tape", "many", "most", "found", "turn", "product", "k"], d17⟩
theorem b17 : BodyOk tx n17 := by
  intro G fe k P w K mg base f cdv A outer s H E h
  show PSs _ _ (tS _ _ _ d17)
  exact (sseq_ok (h.set 3 (xgc_ok (xempty_ok))) (sseq_ok (h.for_ (h.toOk.rg1 9 (h.toOk.ac (h.toOk.call 11 (h.toOk.ac (h.toOk.v 0) (h.toOk.ac (h.toOk.add (h.toOk.v 2) (h.toOk.int)) (anil_ok)))) (anil_ok))) (h.toOk.nm 4) (sseq_ok (h.set 5 (xgc_ok (h.toOk.ty (bTuple_ok h.toOk.on) 5 (h.toOk.ac (h.toOk.bi (bSorted_ok h.toOk.on h.toOk.calm h.toOk.u64) 7 (h.toOk.ac (h.toOk.lc (own := [("k", 6)]) (blkOk_by (by kernel_rfl)) (h.toOk.rg1 9 (h.toOk.ac (h.toOk.call 11 (h.toOk.ac (h.toOk.v 0) (h.toOk.ac (h.toOk.int) (anil_ok)))) (anil_ok))) (fun _ _ _ _ _ h1 => h1.nm 6) (fun _ _ _ _ _ h1 => tyes_ok) (fun _ _ _ _ _ h1 => xgc_ok (h1.call 11 (h1.ac (h1.v 0) (h1.ac (h1.v 1) (anil_ok)))))) (anil_ok)) boot_sorted) (anil_ok)) boot_tuple))) (sone_ok (h.sub (xgc_ok (h.toOk.add (h.toOk.add (h.toOk.mt1 (fGet_ok h.toOk.on h.toOk.u64) (h.toOk.v 3) (h.toOk.ac (h.toOk.v 5) (h.toOk.ac (h.toOk.int) (anil_ok)))) (h.toOk.int)) (h.toOk.call 11 (h.toOk.ac (h.toOk.v 0) (h.toOk.ac (h.toOk.int) (anil_ok)))))) (h.toOk.v 3) (xgc_ok (h.toOk.v 5)))))) (sone_ok (sret_ok (xgc_ok (h.toOk.v 3))))))
theorem ok17 : DefOk tx n17 := ⟨by decide, ⟨rfl, rfl, rfl, by decide +kernel, rfl, by decide +kernel, by decide +kernel⟩, b17⟩
/-- _law_put: whole, sums, found, product, told, row, one -/
def d18 : DenS := sSeq (sSet 2 (xGc (xEmpty))) (sSeq (sFor (iAny (xCallF bSorted (aCons (xVar 0) (aNil)))) (.nm 3) (sSeq (sSet 4 (xGc (xDict [(xTup (aNil), xLit (.int 1))]))) (sSeq (sFor (iAny (xVar 3)) (.nm 5) (sSeq (sSet 4 (xGc (xCall 14 (aCons (xVar 4) (aCons (xBin opIx (xVar 1) (xVar 5)) (aNil)))))) (sIf (tGc (tB (xBin opGt (xCallF bLen (aCons (xVar 4) (aNil))) (xLit (.int 2000))))) (sRet (xGc (xLit (.str "far")))) (sNil)))) (sSeq (sFor (iAny (xVar 4)) (.nm 6) (sSub (xVar 2) (xGc (xVar 6)) (xGc (xBin opAdd (xMeth [("dict", fGet)] (xVar 2) (aCons (xVar 6) (aCons (xLit (.int 0)) (aNil)))) (xBin opMul (xBin opIx (xVar 4) (xVar 6)) (xBin opIx (xVar 0) (xVar 3))))))) (sIf (tGc (tB (xBin opGt (xCallF bLen (aCons (xVar 2) (aNil))) (xLit (.int 2000))))) (sRet (xGc (xLit (.str "far")))) (sNil)))))) (sRet (xGc (xVar 2))))
def n18 : Dn := ⟨"_law_put", top 29, 2, ["whole", "sums", "found", "product", "told", "row", "one"], d18⟩
theorem b18 : BodyOk tx n18 := by
  intro G fe k P w K mg base f cdv A outer s H E h
  show PSs _ _ (tS _ _ _ d18)
  exact (sseq_ok (h.set 2 (xgc_ok (xempty_ok))) (sseq_ok (h.for_ (h.toOk.it (h.toOk.bi (bSorted_ok h.toOk.on h.toOk.calm h.toOk.u64) 7 (h.toOk.ac (h.toOk.v 0) (anil_ok)) boot_sorted)) (h.toOk.nm 3) (sseq_ok (h.set 4 (xgc_ok (h.toOk.dict (l := [(xTup (aNil), xLit (.int 1))]) (pps_cons (xtup_ok (anil_ok)) (h.toOk.int) (pps_nil))))) (sseq_ok (h.for_ (h.toOk.it (h.toOk.v 3)) (h.toOk.nm 5) (sseq_ok (h.set 4 (xgc_ok (h.toOk.call 14 (h.toOk.ac (h.toOk.v 4) (h.toOk.ac (h.toOk.ix (h.toOk.v 1) (h.toOk.v 5)) (anil_ok)))))) (sone_ok (sif_ok (tgc_ok (h.toOk.tgt (h.toOk.bi (bLen_ok h.toOk.on) 6 (h.toOk.ac (h.toOk.v 4) (anil_ok)) PySem.boot_len) (h.toOk.int))) (sone_ok (sret_ok (xgc_ok (h.toOk.str)))) (snil_ok))))) (sseq_ok (h.for_ (h.toOk.it (h.toOk.v 4)) (h.toOk.nm 6) (sone_ok (h.sub (xgc_ok (h.toOk.add (h.toOk.mt1 (fGet_ok h.toOk.on h.toOk.u64) (h.toOk.v 2) (h.toOk.ac (h.toOk.v 6) (h.toOk.ac (h.toOk.int) (anil_ok)))) (h.toOk.mul (h.toOk.ix (h.toOk.v 4) (h.toOk.v 6)) (h.toOk.ix (h.toOk.v 0) (h.toOk.v 3))))) (h.toOk.v 2) (xgc_ok (h.toOk.v 6))))) (sone_ok (sif_ok (tgc_ok (h.toOk.tgt (h.toOk.bi (bLen_ok h.toOk.on) 6 (h.toOk.ac (h.toOk.v 2) (anil_ok)) PySem.boot_len) (h.toOk.int))) (sone_ok (sret_ok (xgc_ok (h.toOk.str)))) (snil_ok))))))) (sone_ok (sret_ok (xgc_ok (h.toOk.v 2))))))
theorem ok18 : DefOk tx n18 := ⟨by decide, ⟨rfl, rfl, rfl, by decide +kernel, rfl, by decide +kernel, by decide +kernel⟩, b18⟩
/-- _law_number: told, worth, found, product, number, row -/
def d19 : DenS := sSeq (sSet 2 (xGc (xLit (.int 0)))) (sSeq (sFor (iAny (xVar 0)) (.nm 3) (sSeq (sSet 4 (xGc (xBin opIx (xVar 0) (xVar 3)))) (sSeq (sFor (iAny (xVar 3)) (.nm 5) (sSet 4 (xGc (xBin opMul (xVar 4) (xBin opIx (xVar 1) (xVar 5)))))) (sSet 2 (xGc (xBin opAdd (xVar 2) (xVar 4))))))) (sRet (xGc (xVar 2))))
def n19 : Dn := ⟨"_law_number", top 30, 2, ["told", "worth", "found", "product", "number", "row"], d19⟩
theorem b19 : BodyOk tx n19 := by
  intro G fe k P w K mg base f cdv A outer s H E h
  show PSs _ _ (tS _ _ _ d19)
  exact (sseq_ok (h.set 2 (xgc_ok (h.toOk.int))) (sseq_ok (h.for_ (h.toOk.it (h.toOk.v 0)) (h.toOk.nm 3) (sseq_ok (h.set 4 (xgc_ok (h.toOk.ix (h.toOk.v 0) (h.toOk.v 3)))) (sseq_ok (h.for_ (h.toOk.it (h.toOk.v 3)) (h.toOk.nm 5) (sone_ok (h.set 4 (xgc_ok (h.toOk.mul (h.toOk.v 4) (h.toOk.ix (h.toOk.v 1) (h.toOk.v 5))))))) (sone_ok (h.set 2 (xgc_ok (h.toOk.add (h.toOk.v 2) (h.toOk.v 4)))))))) (sone_ok (sret_ok (xgc_ok (h.toOk.v 2))))))
theorem ok19 : DefOk tx n19 := ⟨by decide, ⟨rfl, rfl, rfl, by decide +kernel, rfl, by decide +kernel, by decide +kernel⟩, b19⟩
/-- _law_plain: many, k -/
def d20 : DenS := sRet (xGc (xCallF bDictP (aCons (xLc (iRange1 (aCons (xVar 0) (aNil))) (.nm 1) (tYesD) (xGc (xTup (aCons (xTup (aCons (xVar 1) (aNil))) (aCons (xLit (.int 1)) (aNil))))) [1]) (aNil))))
def n20 : Dn := ⟨"_law_plain", top 31, 1, ["many", "k"], d20⟩
theorem b20 : BodyOk tx n20 := by
  intro G fe k P w K mg base f cdv A outer s H E h
  show PSs _ _ (tS _ _ _ d20)
  exact (sone_ok (sret_ok (xgc_ok (h.toOk.ty (bDictP_ok h.toOk.on h.toOk.calm h.toOk.u64) 8 (h.toOk.ac (h.toOk.lc (own := [("k", 1)]) (blkOk_by (by kernel_rfl)) (h.toOk.rg1 9 (h.toOk.ac (h.toOk.v 0) (anil_ok))) (fun _ _ _ _ _ h1 => h1.nm 1) (fun _ _ _ _ _ h1 => tyes_ok) (fun _ _ _ _ _ h1 => xgc_ok (xtup_ok (h1.ac (xtup_ok (h1.ac (h1.v 1) (anil_ok))) (h1.ac (h1.int) (anil_ok)))))) (anil_ok)) boot_dict))))
theorem ok20 : DefOk tx n20 := ⟨by decide, ⟨rfl, rfl, rfl, by decide +kernel, rfl, by decide +kernel, by decide +kernel⟩, b20⟩
/-- _law_rows: whole, found, product -/
def d21 : DenS := sSeq (sSet 1 (xGc (xLst (aNil)))) (sSeq (sFor (iAny (xVar 0)) (.nm 2) (sSet 1 (xGc (xBin opAdd (xVar 1) (xCallF bList (aCons (xVar 2) (aNil))))))) (sRet (xGc (xVar 1))))
def n21 : Dn := ⟨"_law_rows", top 32, 1, ["whole", "found", "product"], d21⟩
theorem b21 : BodyOk tx n21 := by
  intro G fe k P w K mg base f cdv A outer s H E h
  show PSs _ _ (tS _ _ _ d21)
  exact (sseq_ok (h.set 1 (xgc_ok (xlst_ok (anil_ok)))) (sseq_ok (h.for_ (h.toOk.it (h.toOk.v 0)) (h.toOk.nm 2) (sone_ok (h.set 1 (xgc_ok (h.toOk.add (h.toOk.v 1) (h.toOk.ty (bList_ok h.toOk.on h.toOk.calm) 11 (h.toOk.ac (h.toOk.v 2) (anil_ok)) boot_list)))))) (sone_ok (sret_ok (xgc_ok (h.toOk.v 1))))))
theorem ok21 : DefOk tx n21 := ⟨by decide, ⟨rfl, rfl, rfl, by decide +kernel, rfl, by decide +kernel, by decide +kernel⟩, b21⟩
/-- law: script, tape, turn, wide, many, whole, sums, due, shown, told, worth, own, met, odd, k, one, row -/
def d22 : DenS := sSeq (sSet 1 (xGc (xCall 10 (aCons (xVar 0) (aNil))))) (sSeq (sIf (tGc (tNt (tVal (xCall 13 (aCons (xLit (.int 2000)) (aCons (xLit (.int 2000)) (aNil))))))) (sRet (xGc (xLit (.bl false)))) (sNil)) (sSeq (sFor (iRange1 (aCons (xLit (.int 4)) (aNil))) (.nm 2) (sSeq (sSet 4 (xGc (xBin opAdd (xLit (.int 1)) (xCall 11 (aCons (xVar 1) (aCons (xLit (.int 4)) (aNil))))))) (sSeq (sSet 5 (xGc (xCall 17 (aCons (xVar 1) (aCons (xVar 4) (aCons (xLit (.int 4)) (aNil))))))) (sSeq (sSet 6 (xLc (iRange1 (aCons (xVar 4) (aNil))) (.nm 14) (tYesD) (xGc (xCall 17 (aCons (xVar 1) (aCons (xLit (.int 5)) (aCons (xCall 12 (aCons (xVar 1) (aCons (xLst (aCons (xLit (.int 1)) (aCons (xLit (.int 3)) (aCons (xLit (.int 5)) (aNil))))) (aNil)))) (aNil)))))) [14])) (sSeq (sSet 7 (xGc (xCall 18 (aCons (xVar 5) (aCons (xVar 6) (aNil)))))) (sSeq (sSet 8 (xGc (xTup (aCons (xCall 15 (aCons (xVar 5) (aNil))) (aCons (xCallF bTuple (aCons (xLc (iAny (xVar 6)) (.nm 15) (tYesD) (xGc (xCall 15 (aCons (xVar 15) (aNil)))) [15]) (aNil))) (aNil)))))) (sSeq (sSet 9 (xGc (xCall 16 (aCons (xBin opIx (xVar 8) (xLit (.int 0))) (aCons (xBin opIx (xVar 8) (xLit (.int 1))) (aNil)))))) (sSeq (sIf (tGc (tNt (tVal (xCall 13 (aCons (xVar 9) (aCons (xIf (tB (xBin opEqS (xVar 7) (xLit (.str "far")))) (xVar 7) (xCall 15 (aCons (xVar 7) (aNil)))) (aNil))))))) (sRet (xGc (xLit (.bl false)))) (sNil)) (sSeq (sSet 10 (xLc (iRange1 (aCons (xLit (.int 5)) (aNil))) (.nm 14) (tYesD) (xGc (xCall 11 (aCons (xVar 1) (aCons (xLit (.int 4)) (aNil))))) [14])) (sSeq (sIf (tGc (tAn (tB (xBin opNeS (xVar 7) (xLit (.str "far")))) (tB (xBin opNe (xCall 19 (aCons (xVar 7) (aCons (xVar 10) (aNil)))) (xCall 19 (aCons (xVar 5) (aCons (xLc (iAny (xVar 6)) (.nm 15) (tYesD) (xGc (xCall 19 (aCons (xVar 15) (aCons (xVar 10) (aNil))))) [15]) (aNil)))))))) (sRet (xGc (xLit (.bl false)))) (sNil)) (sSeq (sSet 11 (xGc (xCallF bTuple (aCons (xLc (iRange1 (aCons (xVar 4) (aNil))) (.nm 14) (tYesD) (xGc (xTup (aCons (xTup (aCons (xTup (aCons (xVar 14) (aCons (xLit (.int 1)) (aNil)))) (aNil))) (aCons (xLit (.int 1)) (aNil))))) [14]) (aNil))))) (sSeq (sIf (tGc (tOo (tNt (tVal (xCall 13 (aCons (xCall 16 (aCons (xBin opIx (xVar 8) (xLit (.int 0))) (aCons (xCallF bTuple (aCons (xLc (iAny (xVar 11)) (.nm 16) (tYesD) (xGc (xTup (aCons (xVar 16) (aNil)))) [16]) (aNil))) (aNil)))) (aCons (xBin opIx (xVar 8) (xLit (.int 0))) (aNil)))))) (tB (xBin opNe (xCall 16 (aCons (xTup (aCons (xTup (aCons (xTup (aNil)) (aCons (xLit (.int 1)) (aNil)))) (aNil))) (aCons (xTup (aNil)) (aNil)))) (xTup (aCons (xTup (aCons (xTup (aNil)) (aCons (xLit (.int 1)) (aNil)))) (aNil))))))) (sRet (xGc (xLit (.bl false)))) (sNil)) (sSeq (sSet 12 (xGc (xCall 21 (aCons (xVar 5) (aNil))))) (sSeq (sSet 13 (xGc (xLst (aCons (xLit .non) (aCons (xLst (aNil)) (aCons (xTup (aCons (xTup (aNil)) (aNil))) (aCons (xTup (aCons (xTup (aCons (xTup (aCons (xTup (aCons (xLit (.int 0)) (aCons (xLit (.int 0)) (aNil)))) (aNil))) (aCons (xLit (.int 1)) (aNil)))) (aNil))) (aCons (xTup (aCons (xTup (aCons (xTup (aCons (xTup (aCons (xLit (.int 1)) (aCons (xLit (.int 1)) (aNil)))) (aCons (xTup (aCons (xLit (.int 0)) (aCons (xLit (.int 1)) (aNil)))) (aNil)))) (aCons (xLit (.int 1)) (aNil)))) (aNil))) (aCons (xTup (aCons (xTup (aCons (xTup (aNil)) (aCons (xLit (.int 0)) (aNil)))) (aNil))) (aCons (xTup (aCons (xTup (aCons (xTup (aNil)) (aCons (xLit (.bl true)) (aNil)))) (aNil))) (aCons (xTup (aCons (xTup (aCons (xTup (aCons (xTup (aCons (xLit (.int 40)) (aCons (xLit (.int 1)) (aNil)))) (aNil))) (aCons (xLit (.int 1)) (aNil)))) (aNil))) (aNil)))))))))))) (sSeq (sIf (tGc (tOo (tB (xBin opNe (xCall 16 (aCons (xCall 12 (aCons (xVar 1) (aCons (xVar 13) (aNil)))) (aCons (xBin opIx (xVar 8) (xLit (.int 1))) (aNil)))) (xLit (.str "sum")))) (tOo (tB (xBin opNe (xCall 16 (aCons (xBin opIx (xVar 8) (xLit (.int 0))) (aCons (xCallF bList (aCons (xBin opIx (xVar 8) (xLit (.int 1))) (aNil))) (aNil)))) (xLit (.str "sum")))) (tB (xBin opNe (xCall 16 (aCons (xBin opIx (xVar 8) (xLit (.int 0))) (aCons (xBin opAdd (xBin opIx (xVar 8) (xLit (.int 1))) (xTup (aCons (xLit .non) (aNil)))) (aNil)))) (xLit (.str "sum"))))))) (sRet (xGc (xLit (.bl false)))) (sNil)) (sIf (tGc (tAn (tB (xBin opGt (xCallF bLen (aCons (xVar 12) (aNil))) (xLit (.int 0)))) (tB (xBin opNe (xCall 16 (aCons (xBin opIx (xVar 8) (xLit (.int 0))) (aCons (xSl (xBin opIx (xVar 8) (xLit (.int 1))) (oNone) (oSome (xCallF bMax (aCons (xVar 12) (aNil))))) (aNil)))) (xLit (.str "sum")))))) (sRet (xGc (xLit (.bl false)))) (sNil))))))))))))))))) (sSeq (sSet 3 (xGc (xCallF bTuple (aCons (xLc (iRange1 (aCons (xLit (.int 39)) (aNil))) (.nm 14) (tYesD) (xGc (xTup (aCons (xTup (aCons (xTup (aCons (xVar 14) (aCons (xLit (.int 1)) (aNil)))) (aNil))) (aCons (xLit (.int 1)) (aNil))))) [14]) (aNil))))) (sRet (xGc (xAnd (xBin opEq (xCall 16 (aCons (xTup (aCons (xTup (aCons (xTup (aCons (xTup (aCons (xLit (.int 0)) (aCons (xLit (.int 2)) (aNil)))) (aNil))) (aCons (xLit (.int 1)) (aNil)))) (aNil))) (aCons (xTup (aCons (xVar 3) (aNil))) (aNil)))) (xCall 15 (aCons (xCall 14 (aCons (xCall 20 (aCons (xLit (.int 39)) (aNil))) (aCons (xCall 20 (aCons (xLit (.int 39)) (aNil))) (aNil)))) (aNil)))) (xBin opEq (xCall 16 (aCons (xTup (aCons (xTup (aCons (xTup (aCons (xTup (aCons (xLit (.int 0)) (aCons (xLit (.int 3)) (aNil)))) (aNil))) (aCons (xLit (.int 1)) (aNil)))) (aNil))) (aCons (xTup (aCons (xVar 3) (aNil))) (aNil)))) (xLit (.str "far")))))))))
def n22 : Dn := ⟨"law", top 33, 1, ["script", "tape", "turn", "wide", "many", "whole", "sums", "due", "shown", "told", "worth", "own", "met", "odd", "k", "one", "row"], d22⟩
theorem b22 : BodyOk tx n22 := by
  intro G fe k P w K mg base f cdv A outer s H E h
  show PSs _ _ (tS _ _ _ d22)
  exact (sseq_ok (h.set 1 (xgc_ok (h.toOk.call 10 (h.toOk.ac (h.toOk.v 0) (anil_ok))))) (sseq_ok (sif_ok (tgc_ok (h.toOk.tn (h.toOk.tv (h.toOk.call 13 (h.toOk.ac (h.toOk.cn 1) (h.toOk.ac (h.toOk.int) (anil_ok))))))) (sone_ok (sret_ok (xgc_ok (h.toOk.bo)))) (snil_ok)) (sseq_ok (h.for_ (h.toOk.rg1 9 (h.toOk.ac (h.toOk.int) (anil_ok))) (h.toOk.nm 2) (sseq_ok (h.set 4 (xgc_ok (h.toOk.add (h.toOk.int) (h.toOk.call 11 (h.toOk.ac (h.toOk.v 1) (h.toOk.ac (h.toOk.int) (anil_ok))))))) (sseq_ok (h.set 5 (xgc_ok (h.toOk.call 17 (h.toOk.ac (h.toOk.v 1) (h.toOk.ac (h.toOk.v 4) (h.toOk.ac (h.toOk.int) (anil_ok))))))) (sseq_ok (h.setLc (own := [("k", 14)]) 6 (blkOk_by (by kernel_rfl)) (h.toOk.rg1 9 (h.toOk.ac (h.toOk.v 4) (anil_ok))) (fun _ _ _ _ _ h7 => h7.nm 14) (fun _ _ _ _ _ h7 => tyes_ok) (fun _ _ _ _ _ h7 => xgc_ok (h7.call 17 (h7.ac (h7.v 1) (h7.ac (h7.int) (h7.ac (h7.call 12 (h7.ac (h7.v 1) (h7.ac (xlst_ok (h7.ac (h7.int) (h7.ac (h7.int) (h7.ac (h7.int) (anil_ok))))) (anil_ok)))) (anil_ok)))))) (sw_true rfl rfl rfl (by decide +kernel))) (sseq_ok (h.set 7 (xgc_ok (h.toOk.call 18 (h.toOk.ac (h.toOk.v 5) (h.toOk.ac (h.toOk.v 6) (anil_ok)))))) (sseq_ok (h.set 8 (xgc_ok (xtup_ok (h.toOk.ac (h.toOk.call 15 (h.toOk.ac (h.toOk.v 5) (anil_ok))) (h.toOk.ac (h.toOk.ty (bTuple_ok h.toOk.on) 5 (h.toOk.ac (h.toOk.lc (own := [("one", 15)]) (blkOk_by (by kernel_rfl)) (h.toOk.it (h.toOk.v 6)) (fun _ _ _ _ _ h6 => h6.nm 15) (fun _ _ _ _ _ h6 => tyes_ok) (fun _ _ _ _ _ h6 => xgc_ok (h6.call 15 (h6.ac (h6.v 15) (anil_ok))))) (anil_ok)) boot_tuple) (anil_ok)))))) (sseq_ok (h.set 9 (xgc_ok (h.toOk.call 16 (h.toOk.ac (h.toOk.ix (h.toOk.v 8) (h.toOk.int)) (h.toOk.ac (h.toOk.ix (h.toOk.v 8) (h.toOk.int)) (anil_ok)))))) (sseq_ok (sif_ok (tgc_ok (h.toOk.tn (h.toOk.tv (h.toOk.call 13 (h.toOk.ac (h.toOk.v 9) (h.toOk.ac (xif_ok (h.toOk.teqS (h.toOk.v 7) (h.toOk.str)) (h.toOk.v 7) (h.toOk.call 15 (h.toOk.ac (h.toOk.v 7) (anil_ok)))) (anil_ok))))))) (sone_ok (sret_ok (xgc_ok (h.toOk.bo)))) (snil_ok)) (sseq_ok (h.set 10 (h.toOk.lc (own := [("k", 14)]) (blkOk_by (by kernel_rfl)) (h.toOk.rg1 9 (h.toOk.ac (h.toOk.int) (anil_ok))) (fun _ _ _ _ _ h5 => h5.nm 14) (fun _ _ _ _ _ h5 => tyes_ok) (fun _ _ _ _ _ h5 => xgc_ok (h5.call 11 (h5.ac (h5.v 1) (h5.ac (h5.int) (anil_ok))))))) (sseq_ok (sif_ok (tgc_ok ((tan_ok (h.toOk.tneS (h.toOk.v 7) (h.toOk.str)) (tan1_ok (h.toOk.tne (h.toOk.call 19 (h.toOk.ac (h.toOk.v 7) (h.toOk.ac (h.toOk.v 10) (anil_ok)))) (h.toOk.call 19 (h.toOk.ac (h.toOk.v 5) (h.toOk.ac (h.toOk.lc (own := [("one", 15)]) (blkOk_by (by kernel_rfl)) (h.toOk.it (h.toOk.v 6)) (fun _ _ _ _ _ h4 => h4.nm 15) (fun _ _ _ _ _ h4 => tyes_ok) (fun _ _ _ _ _ h4 => xgc_ok (h4.call 19 (h4.ac (h4.v 15) (h4.ac (h4.v 10) (anil_ok)))))) (anil_ok))))))).pt)) (sone_ok (sret_ok (xgc_ok (h.toOk.bo)))) (snil_ok)) (sseq_ok (h.set 11 (xgc_ok (h.toOk.ty (bTuple_ok h.toOk.on) 5 (h.toOk.ac (h.toOk.lc (own := [("k", 14)]) (blkOk_by (by kernel_rfl)) (h.toOk.rg1 9 (h.toOk.ac (h.toOk.v 4) (anil_ok))) (fun _ _ _ _ _ h3 => h3.nm 14) (fun _ _ _ _ _ h3 => tyes_ok) (fun _ _ _ _ _ h3 => xgc_ok (xtup_ok (h3.ac (xtup_ok (h3.ac (xtup_ok (h3.ac (h3.v 14) (h3.ac (h3.int) (anil_ok)))) (anil_ok))) (h3.ac (h3.int) (anil_ok)))))) (anil_ok)) boot_tuple))) (sseq_ok (sif_ok (tgc_ok ((too_ok (h.toOk.tn (h.toOk.tv (h.toOk.call 13 (h.toOk.ac (h.toOk.call 16 (h.toOk.ac (h.toOk.ix (h.toOk.v 8) (h.toOk.int)) (h.toOk.ac (h.toOk.ty (bTuple_ok h.toOk.on) 5 (h.toOk.ac (h.toOk.lc (own := [("row", 16)]) (blkOk_by (by kernel_rfl)) (h.toOk.it (h.toOk.v 11)) (fun _ _ _ _ _ h2 => h2.nm 16) (fun _ _ _ _ _ h2 => tyes_ok) (fun _ _ _ _ _ h2 => xgc_ok (xtup_ok (h2.ac (h2.v 16) (anil_ok))))) (anil_ok)) boot_tuple) (anil_ok)))) (h.toOk.ac (h.toOk.ix (h.toOk.v 8) (h.toOk.int)) (anil_ok)))))) (too1_ok (h.toOk.tne (h.toOk.call 16 (h.toOk.ac (xtup_ok (h.toOk.ac (xtup_ok (h.toOk.ac (xtup_ok (anil_ok)) (h.toOk.ac (h.toOk.int) (anil_ok)))) (anil_ok))) (h.toOk.ac (xtup_ok (anil_ok)) (anil_ok)))) (xtup_ok (h.toOk.ac (xtup_ok (h.toOk.ac (xtup_ok (anil_ok)) (h.toOk.ac (h.toOk.int) (anil_ok)))) (anil_ok)))))).pt)) (sone_ok (sret_ok (xgc_ok (h.toOk.bo)))) (snil_ok)) (sseq_ok (h.set 12 (xgc_ok (h.toOk.call 21 (h.toOk.ac (h.toOk.v 5) (anil_ok))))) (sseq_ok (h.set 13 (xgc_ok (xlst_ok (h.toOk.ac (h.toOk.non) (h.toOk.ac (xlst_ok (anil_ok)) (h.toOk.ac (xtup_ok (h.toOk.ac (xtup_ok (anil_ok)) (anil_ok))) (h.toOk.ac (xtup_ok (h.toOk.ac (xtup_ok (h.toOk.ac (xtup_ok (h.toOk.ac (xtup_ok (h.toOk.ac (h.toOk.int) (h.toOk.ac (h.toOk.int) (anil_ok)))) (anil_ok))) (h.toOk.ac (h.toOk.int) (anil_ok)))) (anil_ok))) (h.toOk.ac (xtup_ok (h.toOk.ac (xtup_ok (h.toOk.ac (xtup_ok (h.toOk.ac (xtup_ok (h.toOk.ac (h.toOk.int) (h.toOk.ac (h.toOk.int) (anil_ok)))) (h.toOk.ac (xtup_ok (h.toOk.ac (h.toOk.int) (h.toOk.ac (h.toOk.int) (anil_ok)))) (anil_ok)))) (h.toOk.ac (h.toOk.int) (anil_ok)))) (anil_ok))) (h.toOk.ac (xtup_ok (h.toOk.ac (xtup_ok (h.toOk.ac (xtup_ok (anil_ok)) (h.toOk.ac (h.toOk.int) (anil_ok)))) (anil_ok))) (h.toOk.ac (xtup_ok (h.toOk.ac (xtup_ok (h.toOk.ac (xtup_ok (anil_ok)) (h.toOk.ac (h.toOk.bo) (anil_ok)))) (anil_ok))) (h.toOk.ac (xtup_ok (h.toOk.ac (xtup_ok (h.toOk.ac (xtup_ok (h.toOk.ac (xtup_ok (h.toOk.ac (h.toOk.int) (h.toOk.ac (h.toOk.int) (anil_ok)))) (anil_ok))) (h.toOk.ac (h.toOk.int) (anil_ok)))) (anil_ok))) (anil_ok)))))))))))) (sseq_ok (sif_ok (tgc_ok ((too_ok (h.toOk.tne (h.toOk.call 16 (h.toOk.ac (h.toOk.call 12 (h.toOk.ac (h.toOk.v 1) (h.toOk.ac (h.toOk.v 13) (anil_ok)))) (h.toOk.ac (h.toOk.ix (h.toOk.v 8) (h.toOk.int)) (anil_ok)))) (h.toOk.str)) (too_ok (h.toOk.tne (h.toOk.call 16 (h.toOk.ac (h.toOk.ix (h.toOk.v 8) (h.toOk.int)) (h.toOk.ac (h.toOk.ty (bList_ok h.toOk.on h.toOk.calm) 11 (h.toOk.ac (h.toOk.ix (h.toOk.v 8) (h.toOk.int)) (anil_ok)) boot_list) (anil_ok)))) (h.toOk.str)) (too1_ok (h.toOk.tne (h.toOk.call 16 (h.toOk.ac (h.toOk.ix (h.toOk.v 8) (h.toOk.int)) (h.toOk.ac (h.toOk.add (h.toOk.ix (h.toOk.v 8) (h.toOk.int)) (xtup_ok (h.toOk.ac (h.toOk.non) (anil_ok)))) (anil_ok)))) (h.toOk.str))))).pt)) (sone_ok (sret_ok (xgc_ok (h.toOk.bo)))) (snil_ok)) (sone_ok (sif_ok (tgc_ok ((tan_ok (h.toOk.tgt (h.toOk.bi (bLen_ok h.toOk.on) 6 (h.toOk.ac (h.toOk.v 12) (anil_ok)) PySem.boot_len) (h.toOk.int)) (tan1_ok (h.toOk.tne (h.toOk.call 16 (h.toOk.ac (h.toOk.ix (h.toOk.v 8) (h.toOk.int)) (h.toOk.ac (h.toOk.sl (h.toOk.ix (h.toOk.v 8) (h.toOk.int)) (onone_ok) (osome_ok (h.toOk.bi (bMax_ok h.toOk.on h.toOk.calm) 14 (h.toOk.ac (h.toOk.v 12) (anil_ok)) boot_max))) (anil_ok)))) (h.toOk.str)))).pt)) (sone_ok (sret_ok (xgc_ok (h.toOk.bo)))) (snil_ok)))))))))))))))))) (sseq_ok (h.set 3 (xgc_ok (h.toOk.ty (bTuple_ok h.toOk.on) 5 (h.toOk.ac (h.toOk.lc (own := [("k", 14)]) (blkOk_by (by kernel_rfl)) (h.toOk.rg1 9 (h.toOk.ac (h.toOk.int) (anil_ok))) (fun _ _ _ _ _ h1 => h1.nm 14) (fun _ _ _ _ _ h1 => tyes_ok) (fun _ _ _ _ _ h1 => xgc_ok (xtup_ok (h1.ac (xtup_ok (h1.ac (xtup_ok (h1.ac (h1.v 14) (h1.ac (h1.int) (anil_ok)))) (anil_ok))) (h1.ac (h1.int) (anil_ok)))))) (anil_ok)) boot_tuple))) (sone_ok (sret_ok (xgc_ok (xand_ok (h.toOk.eq (h.toOk.call 16 (h.toOk.ac (xtup_ok (h.toOk.ac (xtup_ok (h.toOk.ac (xtup_ok (h.toOk.ac (xtup_ok (h.toOk.ac (h.toOk.int) (h.toOk.ac (h.toOk.int) (anil_ok)))) (anil_ok))) (h.toOk.ac (h.toOk.int) (anil_ok)))) (anil_ok))) (h.toOk.ac (xtup_ok (h.toOk.ac (h.toOk.v 3) (anil_ok))) (anil_ok)))) (h.toOk.call 15 (h.toOk.ac (h.toOk.call 14 (h.toOk.ac (h.toOk.call 20 (h.toOk.ac (h.toOk.int) (anil_ok))) (h.toOk.ac (h.toOk.call 20 (h.toOk.ac (h.toOk.int) (anil_ok))) (anil_ok)))) (anil_ok)))) (pe_one (h.toOk.eq (h.toOk.call 16 (h.toOk.ac (xtup_ok (h.toOk.ac (xtup_ok (h.toOk.ac (xtup_ok (h.toOk.ac (xtup_ok (h.toOk.ac (h.toOk.int) (h.toOk.ac (h.toOk.int) (anil_ok)))) (anil_ok))) (h.toOk.ac (h.toOk.int) (anil_ok)))) (anil_ok))) (h.toOk.ac (xtup_ok (h.toOk.ac (h.toOk.v 3) (anil_ok))) (anil_ok)))) (h.toOk.str)))))))))))
theorem ok22 : DefOk tx n22 := ⟨by decide, ⟨rfl, rfl, rfl, by decide +kernel, rfl, by decide +kernel, by decide +kernel⟩, b22⟩
theorem bd0 : BindOk n0 := fun _ _ _ _ _ _ us hl => match us, hl with | [_, _, _], _ => rfl
theorem bd1 : BindOk n1 := fun _ _ _ _ _ _ us hl => match us, hl with | [_], _ => rfl
theorem bd2 : BindOk n2 := fun _ _ _ _ _ _ us hl => match us, hl with | [_], _ => rfl
theorem bd3 : BindOk n3 := fun _ _ _ _ _ _ us hl => match us, hl with | [_, _], _ => rfl
theorem bd4 : BindOk n4 := fun _ _ _ _ _ _ us hl => match us, hl with | [_], _ => rfl
theorem bd5 : BindOk n5 := fun _ _ _ _ _ _ us hl => match us, hl with | [_], _ => rfl
theorem bd6 : BindOk n6 := fun _ _ _ _ _ _ us hl => match us, hl with | [_, _], _ => rfl
theorem bd7 : BindOk n7 := fun _ _ _ _ _ _ us hl => match us, hl with | [_, _], _ => rfl
theorem bd8 : BindOk n8 := fun _ _ _ _ _ _ us hl => match us, hl with | [_, _], _ => rfl
theorem bd9 : BindOk n9 := fun _ _ _ _ _ _ us hl => match us, hl with | [_, _], _ => rfl
theorem bd10 : BindOk n10 := fun _ _ _ _ _ _ us hl => match us, hl with | [_], _ => rfl
theorem bd11 : BindOk n11 := fun _ _ _ _ _ _ us hl => match us, hl with | [_, _], _ => rfl
theorem bd12 : BindOk n12 := fun _ _ _ _ _ _ us hl => match us, hl with | [_, _], _ => rfl
theorem bd13 : BindOk n13 := fun _ _ _ _ _ _ us hl => match us, hl with | [_, _], _ => rfl
theorem bd14 : BindOk n14 := fun _ _ _ _ _ _ us hl => match us, hl with | [_, _], _ => rfl
theorem bd15 : BindOk n15 := fun _ _ _ _ _ _ us hl => match us, hl with | [_], _ => rfl
theorem bd16 : BindOk n16 := fun _ _ _ _ _ _ us hl => match us, hl with | [_, _], _ => rfl
theorem bd17 : BindOk n17 := fun _ _ _ _ _ _ us hl => match us, hl with | [_, _, _], _ => rfl
theorem bd18 : BindOk n18 := fun _ _ _ _ _ _ us hl => match us, hl with | [_, _], _ => rfl
theorem bd19 : BindOk n19 := fun _ _ _ _ _ _ us hl => match us, hl with | [_, _], _ => rfl
theorem bd20 : BindOk n20 := fun _ _ _ _ _ _ us hl => match us, hl with | [_], _ => rfl
theorem bd21 : BindOk n21 := fun _ _ _ _ _ _ us hl => match us, hl with | [_], _ => rfl
theorem bd22 : BindOk n22 := fun _ _ _ _ _ _ us hl => match us, hl with | [_], _ => rfl
noncomputable def ds : List Dn := n0 :: n1 :: n2 :: n3 :: n4 :: n5 :: n6 :: n7 :: n8 :: n9 :: n10 :: n11 :: n12 :: n13 :: n14 :: n15 :: n16 :: n17 :: n18 :: n19 :: n20 :: n21 :: n22 :: []
theorem r0 (n : Nat) : run ds (n + 1) 0 = fun vs m => gcO m (bodyD 3 3 d0 (run ds n) vs m) := run_at (d := n0) rfl
theorem r1 (n : Nat) : run ds (n + 1) 1 = fun vs m => gcO m (bodyD 1 3 d1 (run ds n) vs m) := run_at (d := n1) rfl
theorem r2 (n : Nat) : run ds (n + 1) 2 = fun vs m => gcO m (bodyD 1 2 d2 (run ds n) vs m) := run_at (d := n2) rfl
theorem r3 (n : Nat) : run ds (n + 1) 3 = fun vs m => gcO m (bodyD 2 5 d3 (run ds n) vs m) := run_at (d := n3) rfl
theorem r4 (n : Nat) : run ds (n + 1) 4 = fun vs m => gcO m (bodyD 1 1 d4 (run ds n) vs m) := run_at (d := n4) rfl
theorem r5 (n : Nat) : run ds (n + 1) 5 = fun vs m => gcO m (bodyD 1 1 d5 (run ds n) vs m) := run_at (d := n5) rfl
theorem r6 (n : Nat) : run ds (n + 1) 6 = fun vs m => gcO m (bodyD 2 5 d6 (run ds n) vs m) := run_at (d := n6) rfl
theorem r7 (n : Nat) : run ds (n + 1) 7 = fun vs m => gcO m (bodyD 2 8 d7 (run ds n) vs m) := run_at (d := n7) rfl
theorem r8 (n : Nat) : run ds (n + 1) 8 = fun vs m => gcO m (bodyD 2 11 d8 (run ds n) vs m) := run_at (d := n8) rfl
theorem r9 (n : Nat) : run ds (n + 1) 9 = fun vs m => gcO m (bodyD 2 6 d9 (run ds n) vs m) := run_at (d := n9) rfl
theorem r10 (n : Nat) : run ds (n + 1) 10 = fun vs m => gcO m (bodyD 1 3 d10 (run ds n) vs m) := run_at (d := n10) rfl
theorem r11 (n : Nat) : run ds (n + 1) 11 = fun vs m => gcO m (bodyD 2 4 d11 (run ds n) vs m) := run_at (d := n11) rfl
theorem r12 (n : Nat) : run ds (n + 1) 12 = fun vs m => gcO m (bodyD 2 2 d12 (run ds n) vs m) := run_at (d := n12) rfl
theorem r13 (n : Nat) : run ds (n + 1) 13 = fun vs m => gcO m (bodyD 2 3 d13 (run ds n) vs m) := run_at (d := n13) rfl
theorem r14 (n : Nat) : run ds (n + 1) 14 = fun vs m => gcO m (bodyD 2 6 d14 (run ds n) vs m) := run_at (d := n14) rfl
theorem r15 (n : Nat) : run ds (n + 1) 15 = fun vs m => gcO m (bodyD 1 4 d15 (run ds n) vs m) := run_at (d := n15) rfl
theorem r16 (n : Nat) : run ds (n + 1) 16 = fun vs m => gcO m (bodyD 2 3 d16 (run ds n) vs m) := run_at (d := n16) rfl
theorem r17 (n : Nat) : run ds (n + 1) 17 = fun vs m => gcO m (bodyD 3 7 d17 (run ds n) vs m) := run_at (d := n17) rfl
theorem r18 (n : Nat) : run ds (n + 1) 18 = fun vs m => gcO m (bodyD 2 7 d18 (run ds n) vs m) := run_at (d := n18) rfl
theorem r19 (n : Nat) : run ds (n + 1) 19 = fun vs m => gcO m (bodyD 2 6 d19 (run ds n) vs m) := run_at (d := n19) rfl
theorem r20 (n : Nat) : run ds (n + 1) 20 = fun vs m => gcO m (bodyD 1 2 d20 (run ds n) vs m) := run_at (d := n20) rfl
theorem r21 (n : Nat) : run ds (n + 1) 21 = fun vs m => gcO m (bodyD 1 3 d21 (run ds n) vs m) := run_at (d := n21) rfl
theorem r22 (n : Nat) : run ds (n + 1) 22 = fun vs m => gcO m (bodyD 1 17 d22 (run ds n) vs m) := run_at (d := n22) rfl
theorem ds_ok : ∀ (j : Nat) (d : Dn), ds[j]? = some d → DefOk tx d := fun j d h => AllL.get (p := DefOk tx) (l := ds) (i := j) ⟨ok0, ok1, ok2, ok3, ok4, ok5, ok6, ok7, ok8, ok9, ok10, ok11, ok12, ok13, ok14, ok15, ok16, ok17, ok18, ok19, ok20, ok21, ok22, trivial⟩ h
end K39
end Mn
set_option Elab.async false
set_option linter.all false
set_option maxRecDepth 100000
set_option maxHeartbeats 1000000
namespace Mn
namespace K39
open PySem
theorem s0 (n : Nat) (i lo hi : Int) (m : Mem) : run ds (n + 1) 0 [.int i, .int lo, .int hi] m = .ok (.bl (decide (lo ≤ i) && decide (i ≤ hi))) m := by
  simp [r0, d0, tyN, isT, opLe]
theorem s1 (n : Nat) (xs : List D) (m : Mem) (h : ascOk xs = true) (hl : xs.length ≤ sizeLine) : run ds (n + 1) 1 [.tup xs] m = .ok (.bl (ascD xs)) m := by
  have hlc := xLc_bools (fe := run ds n) (ρ := [some (.tup xs), none, none]) (m := m) (m1 := m) (it := iZipD (aCons (xVar 0) (aCons (xSl (xVar 0) (oSome (xLit (.int 1))) oNone) aNil))) (p := .tp [.nm 1, .nm 2]) (own := [1, 2]) (e := xGc (xBin opLt (xVar 1) (xVar 2))) pairLt (xs := zipD xs xs.tail) (w := [])
    (by simp [opSl, zipI]) rfl (by simp [zipD]; omega) fun x hx => by
      obtain ⟨a, b, rfl, hab⟩ := zip_ok xs h x hx
      refine ⟨_, rfl, ?_⟩
      simp [wipeE, opLt_of hab, pairLt]
  simp [r1, d1, hlc, zip_asc]
theorem s1l (n l : Nat) (xs : List D) (m : Mem) (hm : m[l]? = some (.lst xs)) (h : ascOk xs = true) (hl : xs.length ≤ sizeLine) : run ds (n + 1) 1 [.loc l] m = .ok (.bl (ascD xs)) m := by
  have hlt : l < m.length := (List.getElem?_eq_some_iff.mp hm).1
  have e1 : (m ++ [.lst xs.tail])[l]? = some (.lst xs) := by rw [List.getElem?_append_left hlt]; exact hm
  have hlc := xLc_bools (fe := run ds n) (ρ := [some (.loc l), none, none]) (m := m) (m1 := m ++ [.lst xs.tail]) (it := iZipD (aCons (xVar 0) (aCons (xSl (xVar 0) (oSome (xLit (.int 1))) oNone) aNil))) (p := .tp [.nm 1, .nm 2]) (own := [1, 2]) (e := xGc (xBin opLt (xVar 1) (xVar 2))) pairLt (xs := zipD xs xs.tail) (w := wD (.loc l) xs ++ wD (.loc m.length) xs.tail)
    (by
      have hm' : m[l]? = some (.lst xs) := hm
      have e2 : zipI (m ++ [.lst xs.tail]) (.loc l) (.loc m.length) = some (xs, xs.tail, wD (.loc l) xs ++ wD (.loc m.length) xs.tail) := by simp only [zipI, listM, e1, get_end]
      have e3 : opSl (.loc l) (some 1) none m = some (.loc m.length, m ++ [.lst xs.tail]) := by simp only [opSl, hm', cut_tail]
      simp only [iZipD_ev, aCons_ev, aNil_ev, xVar_ev, xSl_ev, oSome_ev, oNone_ev, xLit_ev, List.getElem?_cons_zero, Out.bind_ok, e3, Out.ofO_some, e2])
    (by simp [watchOk, wD, e1]) (by simp [zipD]; omega) fun x hx => by
      obtain ⟨a, b, rfl, hab⟩ := zip_ok xs h x hx
      refine ⟨_, rfl, ?_⟩
      simp [wipeE, opLt_of hab, pairLt]
  have hb := bAll_end (m := m ++ [.lst xs.tail]) (xs := zipD xs xs.tail) pairLt
  rw [zip_asc] at hb
  simp only [r1, d1, bodyD_ev, List.length_cons, List.length_nil, sRet_ev, xGc_ev, xCallF_ev, aCons_ev, aNil_ev, List.map_cons, List.map_nil, List.cons_append, List.nil_append, List.replicate, hlc, Out.bind_ok, hb, Out.ofO_some]
  simp
/-- pairs with a number behind -/
def pairI : D → Bool
  | .tup [_, .int _] => true
  | _ => false
def cntB : D → Bool
  | .tup [_, .int i] => decide (1 ≤ i)
  | _ => false
def b2b : DenS := sSeq (sIf (tGc (tOo (tNt (tVal (xIsi ["tuple"] (xVar 1)))) (tB (xBin opNe (xCallF bLen (aCons (xVar 1) (aNil))) (xLit (.int 2)))))) (sRet (xGc (xLit (.bl false)))) (sNil)) (sIf (tGc (tOo (tNt (tVal (xIsi ["int"] (xBin opIx (xVar 1) (xLit (.int 1)))))) (tOo (tVal (xIsi ["bool"] (xBin opIx (xVar 1) (xLit (.int 1))))) (tB (xBin opLt (xBin opIx (xVar 1) (xLit (.int 1))) (xLit (.int 1))))))) (sRet (xGc (xLit (.bl false)))) (sNil))
theorem s2 (n : Nat) (xs : List D) (m : Mem) (h : xs.all pairI = true) : run ds (n + 1) 2 [.tup xs] m = .ok (.bl (xs.all cntB)) m := by
  obtain ⟨h1, h2⟩ := sFor_check (fe := run ds n) (ρ := [some (.tup xs), none]) (m := m) (m1 := m) (it := iAny (xVar 0)) (p := .nm 1) (b := b2b) (w := []) (xs := xs) cntB (fun ρ => ∃ o, ρ = [some (.tup xs), o]) (by simp) rfl ⟨none, rfl⟩ (by
    rintro x hx ρ ⟨o, rfl⟩
    have hp := List.all_eq_true.mp h x hx
    unfold pairI at hp
    split at hp
    · rename_i y i
      refine ⟨_, rfl, fun c => ⟨[some (.tup xs), some (.tup [y, .int i])], ?_, _, rfl⟩, fun c => ?_⟩
      · have c1 : ¬ i < 1 := by have := of_decide_eq_true c; omega
        simp [b2b, tyN, isT, truth, bLen, opNe, eqM, pureD, eqv, opIx, opLt, c1]
      · have c1 : i < 1 := by have := of_decide_eq_false c; omega
        simp [b2b, tyN, isT, truth, bLen, opNe, eqM, pureD, eqv, opIx, opLt, c1]
    · cases hp)
  have ed : d2 = sSeq (sIf (tGc (tNt (tVal (xIsi ["tuple"] (xVar 0))))) (sRet (xGc (xLit (.bl false)))) (sNil)) (sSeq (sFor (iAny (xVar 0)) (.nm 1) b2b) (sRet (xGc (xLit (.bl true))))) := rfl
  rw [r2, ed]
  cases c : xs.all cntB with
  | true =>
    obtain ⟨ρ', h3, _⟩ := h1 c
    simp [tyN, isT, truth, h3]
  | false => simp [tyN, isT, truth, h2 c]
def rowI : D → Bool
  | .tup [.int _, .int _] => true
  | _ => false
def prodI : D → Bool
  | .tup [.tup rs, .int _] => rs.all rowI && decide (rs.length ≤ 1000)
  | _ => false
def fstD : D → D
  | .tup (a :: _) => a
  | d => d
def rowOk (k : Nat) : D → Bool
  | .tup [.int r, _] => decide (0 ≤ r) && decide (r ≤ (k : Int) - 1)
  | _ => false
def prodOk (k : Nat) : D → Bool
  | .tup [.tup rs, _] => rs.all cntB && rs.all (rowOk k) && ascD (rs.map fstD)
  | _ => false
def sumB (k : Nat) (ps : List D) : Bool := ps.all cntB && decide (ps.length ≤ 2000) && ps.all (prodOk k) && ascD (ps.map fstD)
theorem rowI_shape {d : D} (h : rowI d = true) : ∃ r t, d = .tup [.int r, .int t] := by
  unfold rowI at h
  split at h
  · exact ⟨_, _, rfl⟩
  · cases h
theorem prodI_shape {d : D} (h : prodI d = true) : ∃ rs i, d = .tup [.tup rs, .int i] ∧ rs.all rowI = true ∧ rs.length ≤ 1000 := by
  unfold prodI at h
  split at h
  · simp only [Bool.and_eq_true, decide_eq_true_eq] at h
    exact ⟨_, _, rfl, h.1, h.2⟩
  · cases h
theorem rowI_pure {k : Nat} : ∀ {xs : List D}, xs.all rowI = true → pureDs (k + 1) xs = true
  | [], _ => rfl
  | x :: xs, h => by
    simp only [List.all_cons, Bool.and_eq_true] at h
    obtain ⟨r, t, rfl⟩ := rowI_shape h.1
    simp [pureDs, pureD, rowI_pure h.2]
theorem rowI_comp : ∀ {xs ys : List D}, xs.all rowI = true → ys.all rowI = true → compAll (toPys xs) (toPys ys) = true
  | [], ys, _, _ => by simp [toPys, compAll]
  | x :: xs, [], _, _ => by simp [toPys, compAll]
  | x :: xs, y :: ys, h, g => by
    simp only [List.all_cons, Bool.and_eq_true] at h g
    obtain ⟨r, t, rfl⟩ := rowI_shape h.1
    obtain ⟨r', t', rfl⟩ := rowI_shape g.1
    simp only [toPys, toPy, compAll, comp, rowI_comp h.2 g.2, ite_self]
theorem ints_ascOk : ∀ {xs : List D}, (∀ x ∈ xs, ∃ i, x = .int i) → ascOk xs = true
  | [], _ => rfl
  | [a], _ => rfl
  | a :: b :: r, h => by
    obtain ⟨i, rfl⟩ := h a (by simp)
    obtain ⟨j, rfl⟩ := h b (by simp)
    simp only [ascOk, ltOk, Bool.true_and]
    exact ints_ascOk fun x hx => h x (List.mem_cons_of_mem _ hx)
theorem prods_ascOk : ∀ {xs : List D}, (∀ x ∈ xs, ∃ rs, x = .tup rs ∧ rs.all rowI = true) → ascOk xs = true
  | [], _ => rfl
  | [a], _ => rfl
  | a :: b :: r, h => by
    obtain ⟨i, rfl, hi⟩ := h a (by simp)
    obtain ⟨j, rfl, hj⟩ := h b (by simp)
    simp only [ascOk, ltOk, Bool.and_eq_true]
    exact ⟨⟨⟨by simp [pureD, rowI_pure hi], by simp [pureD, rowI_pure hj]⟩, by simp [toPy, comp, rowI_comp hi hj]⟩, prods_ascOk fun x hx => h x (List.mem_cons_of_mem _ hx)⟩
def b3b : DenS := sSeq (sIf (tGc (tOo (tNt (tVal (xCall 2 (aCons (xVar 2) (aNil))))) (tNt (tVal (xCallF bAll (aCons (xLc (iAny (xVar 2)) (.tp [.nm 4, .nm 3]) (tYesD) (xGc (xCall 0 (aCons (xVar 4) (aCons (xLit (.int 0)) (aCons (xBin opSub (xVar 1) (xLit (.int 1))) (aNil)))))) [4, 3]) (aNil))))))) (sRet (xGc (xLit (.bl false)))) (sNil)) (sIf (tGc (tNt (tVal (xCall 1 (aCons (xLc (iAny (xVar 2)) (.tp [.nm 4, .nm 3]) (tYesD) (xGc (xVar 4)) [4, 3]) (aNil)))))) (sRet (xGc (xLit (.bl false)))) (sNil))
theorem t3 (n k : Nat) (rs : List D) (i : Int) (o0 o4 : Option D) (m : Mem) (hr : rs.all rowI = true) (hl : rs.length ≤ 1000) : b3b (run ds (n + 1)) [o0, some (.int k), some (.tup rs), some (.int i), o4] m = if prodOk k (.tup [.tup rs, .int i]) = true then .next [o0, some (.int k), some (.tup rs), some (.int i), o4] m else .ret (.bl false) m := by
  have z := sizeLine_is
  have hp : rs.all pairI = true := List.all_eq_true.mpr fun x hx => by
    obtain ⟨r, t, rfl⟩ := rowI_shape (List.all_eq_true.mp hr x hx)
    rfl
  have h2x := s2 n rs m hp
  have l1 := xLc_bools (fe := run ds (n + 1)) (ρ := [o0, some (.int k), some (.tup rs), some (.int i), o4]) (m := m) (m1 := m) (it := iAny (xVar 2)) (p := .tp [.nm 4, .nm 3]) (own := [4, 3]) (e := xGc (xCall 0 (aCons (xVar 4) (aCons (xLit (.int 0)) (aCons (xBin opSub (xVar 1) (xLit (.int 1))) (aNil)))))) (rowOk k) (xs := rs) (w := [])
    (by simp) rfl (by omega) fun x hx => by
      obtain ⟨r, t, rfl⟩ := rowI_shape (List.all_eq_true.mp hr x hx)
      refine ⟨_, rfl, ?_⟩
      simp [wipeE, opSub, s0, rowOk]
  have l2 := xLc_map (fe := run ds (n + 1)) (ρ := [o0, some (.int k), some (.tup rs), some (.int i), o4]) (m := m) (m1 := m) (it := iAny (xVar 2)) (p := .tp [.nm 4, .nm 3]) (own := [4, 3]) (e := xGc (xVar 4)) fstD (xs := rs) (w := [])
    (by simp) rfl (by omega) fun x hx => by
      obtain ⟨r, t, rfl⟩ := rowI_shape (List.all_eq_true.mp hr x hx)
      refine ⟨_, rfl, ?_⟩
      simp [wipeE, fstD]
  have h4 := s1l n m.length (rs.map fstD) (m ++ [.lst (rs.map fstD)]) (by simp) (ints_ascOk fun x hx => by
    obtain ⟨d, hd, rfl⟩ := List.mem_map.mp hx
    obtain ⟨r, t, rfl⟩ := rowI_shape (List.all_eq_true.mp hr d hd)
    exact ⟨r, rfl⟩) (by simp; omega)
  cases c1 : rs.all cntB <;> cases c2 : rs.all (rowOk k) <;> cases c3 : ascD (rs.map fstD) <;> simp [b3b, h2x, truth, l1, l2, h4, c1, c2, c3, prodOk]
theorem s3 (n k : Nat) (ps : List D) (m : Mem) (hk : k ≤ 40) (h : ps.all prodI = true) (hl : ps.length ≤ 10000) : run ds (n + 2) 3 [.tup ps, .int k] m = .ok (.bl (sumB k ps)) m := by
  have z := sizeLine_is
  have hp : ps.all pairI = true := List.all_eq_true.mpr fun x hx => by
    obtain ⟨r, t, rfl, _⟩ := prodI_shape (List.all_eq_true.mp h x hx)
    rfl
  have h0 := s0 n (k : Int) 0 40 m
  have k1 : (decide ((0 : Int) ≤ k) && decide ((k : Int) ≤ 40)) = true := by simp; omega
  rw [k1] at h0
  have h2x := s2 n ps m hp
  obtain ⟨h1, h2⟩ := sFor_check (fe := run ds (n + 1)) (ρ := [some (.tup ps), some (.int k), none, none, none]) (m := m) (m1 := m) (it := iAny (xVar 0)) (p := .tp [.nm 2, .nm 3]) (b := b3b) (w := []) (xs := ps) (prodOk k) (fun ρ => ∃ o2 o3 o4, ρ = [some (.tup ps), some (.int k), o2, o3, o4]) (by simp) rfl ⟨none, none, none, rfl⟩ (by
    rintro x hx ρ ⟨o2, o3, o4, rfl⟩
    obtain ⟨rs, i, rfl, hr, hrl⟩ := prodI_shape (List.all_eq_true.mp h x hx)
    have ht := t3 n k rs i (some (.tup ps)) o4 m hr hrl
    refine ⟨_, rfl, fun c => ⟨[some (.tup ps), some (.int k), some (.tup rs), some (.int i), o4], ?_, _, _, _, rfl⟩, fun c => ?_⟩
    · rw [c, if_pos rfl] at ht; exact ht
    · rw [c] at ht; simpa using ht)
  have l2 := fun ρ2 ρ3 ρ4 => xLc_map (fe := run ds (n + 1)) (ρ := [some (.tup ps), some (.int k), ρ2, ρ3, ρ4]) (m := m) (m1 := m) (it := iAny (xVar 0)) (p := .tp [.nm 2, .nm 3]) (own := [2, 3]) (e := xGc (xVar 2)) fstD (xs := ps) (w := [])
    (by simp) rfl (by omega) fun x hx => by
      obtain ⟨rs, i, rfl, hr, hrl⟩ := prodI_shape (List.all_eq_true.mp h x hx)
      refine ⟨_, rfl, ?_⟩
      simp [wipeE, fstD]
  have h4 := s1l n m.length (ps.map fstD) (m ++ [.lst (ps.map fstD)]) (by simp) (prods_ascOk fun x hx => by
    obtain ⟨d, hd, rfl⟩ := List.mem_map.mp hx
    obtain ⟨rs, i, rfl, hr, hrl⟩ := prodI_shape (List.all_eq_true.mp h d hd)
    exact ⟨rs, rfl, hr⟩) (by simp; omega)
  have ed : d3 = sSeq (sIf (tGc (tOo (tNt (tVal (xCall 0 (aCons (xVar 1) (aCons (xLit (.int 0)) (aCons (xLit (.int 40)) (aNil))))))) (tOo (tNt (tVal (xCall 2 (aCons (xVar 0) (aNil))))) (tB (xBin opGt (xCallF bLen (aCons (xVar 0) (aNil))) (xLit (.int 2000))))))) (sRet (xGc (xLit (.bl false)))) (sNil)) (sSeq (sFor (iAny (xVar 0)) (.tp [.nm 2, .nm 3]) b3b) (sRet (xGc (xCall 1 (aCons (xLc (iAny (xVar 0)) (.tp [.nm 2, .nm 3]) (tYesD) (xGc (xVar 2)) [2, 3]) (aNil)))))) := rfl
  rw [r3, ed]
  cases c1 : ps.all cntB with
  | false => simp [h0, h2x, truth, c1, sumB]
  | true =>
    by_cases c2 : ps.length ≤ 2000
    · have c2' : ¬ (2000 : Int) < ps.length := by omega
      cases c3 : ps.all (prodOk k) with
      | false =>
        have h3 := h2 c3
        simp [h0, h2x, truth, c1, c2', opGt, bLen, h3, sumB, c3]
      | true =>
        obtain ⟨ρ', h3, o2, o3, o4, rfl⟩ := h1 c3
        simp [h0, h2x, truth, c1, c2, c2', opGt, bLen, h3, sumB, c3, l2, h4]
    · have c2' : (2000 : Int) < ps.length := by omega
      simp [h0, h2x, truth, c1, c2', opGt, bLen, sumB, c2]
end K39
end Mn
set_option Elab.async false
set_option linter.all false
set_option maxRecDepth 100000
set_option maxHeartbeats 1000000
namespace Mn
namespace K39
abbrev Tm := List (List Int × Int)
def getT (A : Tm) (p : List Int) : Int := match A with
  | [] => 0
  | t :: r => if t.1 = p then t.2 else getT r p
def putT (A : Tm) (p : List Int) (c : Int) : Tm := match A with
  | [] => [(p, c)]
  | t :: r => if t.1 = p then (t.1, c) :: r else t :: putT r p c
def addT (A : Tm) (t : List Int × Int) : Tm := putT A t.1 (getT A t.1 + t.2)
def acc (ts A : Tm) : Tm := ts.foldl addT A
def keysT (A : Tm) : List (List Int) := A.map (·.1)
def tot (ts : Tm) (p : List Int) : Int := match ts with
  | [] => 0
  | t :: r => (if t.1 = p then t.2 else 0) + tot r p
theorem putT_keys (A : Tm) (p : List Int) (c : Int) : keysT (putT A p c) = if p ∈ keysT A then keysT A else keysT A ++ [p] := by
  induction A with
  | nil => simp [putT, keysT]
  | cons t r ih =>
    simp only [keysT] at ih
    unfold putT
    by_cases h : t.1 = p
    · simp [h, keysT]
    · have h' : ¬ p = t.1 := fun e => h e.symm
      simp only [h, if_false, keysT, List.map_cons, ih, List.mem_cons, h', false_or]
      by_cases hm : p ∈ r.map (·.1) <;> simp [hm]
theorem putT_get (A : Tm) (p q : List Int) (c : Int) : getT (putT A p c) q = if p = q then c else getT A q := by
  induction A with
  | nil => simp [putT, getT]
  | cons t r ih =>
    unfold putT
    by_cases h : t.1 = p
    · subst h
      simp only [if_true, getT]
      split <;> simp_all
    · simp only [h, if_false, getT, ih]
      by_cases e : t.1 = q
      · have : ¬ p = q := fun z => h (e.trans z.symm)
        simp [e, this]
      · simp [e]
theorem get_none {A : Tm} {p : List Int} (h : p ∉ keysT A) : getT A p = 0 := by
  induction A with
  | nil => rfl
  | cons t r ih =>
    simp only [keysT, List.map_cons, List.mem_cons, not_or] at h
    unfold getT
    rw [if_neg (fun e => h.1 e.symm)]
    exact ih h.2
theorem addT_get (A : Tm) (t : List Int × Int) (q : List Int) : getT (addT A t) q = getT A q + (if t.1 = q then t.2 else 0) := by
  unfold addT
  rw [putT_get]
  split
  · rename_i h; rw [h]
  · simp
theorem acc_get : ∀ (ts A : Tm) (q : List Int), getT (acc ts A) q = getT A q + tot ts q
  | [], A, q => by simp [acc, tot]
  | t :: r, A, q => by
    show getT (acc r (addT A t)) q = _
    rw [acc_get r, addT_get, tot]
    omega
theorem addT_mem {A : Tm} {t : List Int × Int} {q : List Int} : q ∈ keysT (addT A t) ↔ q ∈ keysT A ∨ q = t.1 := by
  unfold addT
  rw [putT_keys]
  split
  · rename_i h
    constructor
    · exact .inl
    · rintro (h1 | rfl) <;> assumption
  · simp
theorem acc_mem : ∀ {ts A : Tm} {q : List Int}, q ∈ keysT (acc ts A) ↔ q ∈ keysT A ∨ q ∈ keysT ts
  | [], A, q => by simp [acc, keysT]
  | t :: r, A, q => by
    show q ∈ keysT (acc r (addT A t)) ↔ _
    rw [acc_mem (ts := r), addT_mem]
    simp only [keysT, List.map_cons, List.mem_cons]
    constructor
    · rintro ((h | h) | h) <;> simp [h]
    · rintro (h | h | h) <;> simp [h]
theorem addT_nodup {A : Tm} {t : List Int × Int} (h : (keysT A).Nodup) : (keysT (addT A t)).Nodup := by
  unfold addT
  rw [putT_keys]
  split
  · exact h
  · rename_i c
    exact List.nodup_append.mpr ⟨h, by simp, fun a ha b hb e => by
      rw [List.mem_singleton.mp hb] at e
      exact c (e ▸ ha)⟩
theorem acc_nodup : ∀ {ts A : Tm}, (keysT A).Nodup → (keysT (acc ts A)).Nodup
  | [], _, h => h
  | t :: r, A, h => acc_nodup (ts := r) (addT_nodup h)
theorem acc_len : ∀ (ts A : Tm), (acc ts A).length ≤ A.length + ts.length
  | [], A => by simp [acc]
  | t :: r, A => by
    have h1 := acc_len r (addT A t)
    have h2 : (addT A t).length ≤ A.length + 1 := by
      have := congrArg List.length (putT_keys A t.1 (getT A t.1 + t.2))
      simp only [keysT, List.length_map] at this
      unfold addT
      rw [this]
      by_cases hm : t.1 ∈ A.map (·.1) <;> simp [hm]
    show (acc r (addT A t)).length ≤ _
    simp only [List.length_cons]
    omega
theorem acc_mono : ∀ (ts A : Tm), A.length ≤ (acc ts A).length
  | [], A => by simp [acc]
  | t :: r, A => by
    have h1 := acc_mono r (addT A t)
    have h2 : A.length ≤ (addT A t).length := by
      have := congrArg List.length (putT_keys A t.1 (getT A t.1 + t.2))
      simp only [keysT, List.length_map] at this
      unfold addT
      rw [this]
      by_cases hm : t.1 ∈ A.map (·.1) <;> simp [hm]
    show _ ≤ (acc r (addT A t)).length
    omega
theorem acc_app (ts us A : Tm) : acc (ts ++ us) A = acc us (acc ts A) := by simp [acc, List.foldl_append]
/-- distinct products in order, numbers from one on -/
structure Gd (A : Tm) : Prop where
  nd : (keysT A).Nodup
  srt : ∀ t ∈ A, t.1.Pairwise (· ≤ ·)
  pos : ∀ t ∈ A, 1 ≤ t.2
theorem mem_get {A : Tm} (h : (keysT A).Nodup) {p : List Int} {c : Int} : (p, c) ∈ A ↔ p ∈ keysT A ∧ c = getT A p := by
  induction A with
  | nil => simp [keysT]
  | cons t r ih =>
    obtain ⟨q, d⟩ := t
    simp only [keysT, List.map_cons, List.nodup_cons] at h
    have ih := ih h.2
    simp only [keysT] at ih
    simp only [List.mem_cons, Prod.mk.injEq, keysT, List.map_cons, getT, ih]
    by_cases e : q = p
    · subst e
      simp only [true_and, if_true, true_or]
      constructor
      · rintro (h1 | h1)
        · exact h1
        · exact absurd h1.1 h.1
      · exact .inl
    · have e' : ¬ p = q := fun z => e z.symm
      simp [e, e']
theorem tot_perm {ts us : Tm} (h : ts.Perm us) (p : List Int) : tot ts p = tot us p := by
  induction h with
  | nil => rfl
  | cons x _ ih => simp [tot, ih]
  | swap x y l => simp only [tot]; omega
  | trans _ _ i1 i2 => rw [i1, i2]
theorem nd_of {A : Tm} (h : (keysT A).Nodup) : A.Nodup := (List.pairwise_map.mp h).imp fun {a b} h e => h (by rw [e])
theorem perm_of {A B : Tm} (ha : (keysT A).Nodup) (hb : (keysT B).Nodup) (hk : ∀ p, p ∈ keysT A ↔ p ∈ keysT B) (hg : ∀ p, getT A p = getT B p) : A.Perm B := by
  have n1 : A.Nodup := nd_of ha
  have n2 : B.Nodup := nd_of hb
  rw [List.perm_ext_iff_of_nodup n1 n2]
  rintro ⟨p, c⟩
  rw [mem_get ha, mem_get hb, hk, hg]
theorem acc_perm {ts us : Tm} (h : ts.Perm us) : (acc ts []).Perm (acc us []) := by
  refine perm_of (acc_nodup (by simp [keysT])) (acc_nodup (by simp [keysT])) (fun p => ?_) fun p => ?_
  · rw [acc_mem, acc_mem]
    have : (keysT ts).Perm (keysT us) := h.map _
    rw [this.mem_iff]
  · rw [acc_get, acc_get, tot_perm h]
theorem tot_self {A : Tm} (h : (keysT A).Nodup) (p : List Int) : tot A p = getT A p := by
  induction A with
  | nil => rfl
  | cons t r ih =>
    simp only [keysT, List.map_cons, List.nodup_cons] at h
    simp only [tot, getT, ih h.2]
    split
    · rename_i e
      have : getT r p = 0 := get_none (by rw [← e]; exact h.1)
      omega
    · simp
theorem acc_self {A : Tm} (h : (keysT A).Nodup) : (acc A []).Perm A := by
  refine perm_of (acc_nodup (by simp [keysT])) h (fun p => ?_) fun p => ?_
  · rw [acc_mem]; simp [keysT]
  · rw [acc_get, tot_self h]; simp [getT]
theorem acc_pos : ∀ {ts A : Tm}, (∀ t ∈ ts, 1 ≤ t.2) → (∀ t ∈ A, 1 ≤ t.2) → (keysT A).Nodup → ∀ t ∈ acc ts A, 1 ≤ t.2
  | ts, A, h1, h2, nd, (p, c), ht => by
    obtain ⟨hk, e⟩ := (mem_get (acc_nodup (ts := ts) nd)).mp ht
    rw [acc_get] at e
    have t0 : ∀ (us : Tm), (∀ t ∈ us, 1 ≤ t.2) → 0 ≤ tot us p ∧ (p ∈ keysT us → 1 ≤ tot us p) := by
      intro us
      induction us with
      | nil => intro _; simp [tot, keysT]
      | cons t r ih =>
        intro h
        obtain ⟨i1, i2⟩ := ih fun x hx => h x (by simp [hx])
        have := h t (by simp)
        simp only [tot, keysT, List.map_cons, List.mem_cons]
        constructor
        · split <;> omega
        · rintro (e | e)
          · rw [if_pos e.symm]; omega
          · have := i2 e
            split <;> omega
    have g0 : 0 ≤ getT A p ∧ (p ∈ keysT A → 1 ≤ getT A p) := by
      have := t0 A h2
      rwa [tot_self nd] at this
    rw [acc_mem] at hk
    have := t0 ts h1
    simp only
    rcases hk with hk | hk
    · have := g0.2 hk; omega
    · have := this.2 hk; omega
theorem acc_good {ts : Tm} (hs : ∀ t ∈ ts, t.1.Pairwise (· ≤ ·)) (hp : ∀ t ∈ ts, 1 ≤ t.2) : Gd (acc ts []) := by
  refine ⟨acc_nodup (by simp [keysT]), fun t ht => ?_, acc_pos hp (by simp) (by simp [keysT])⟩
  have hk : t.1 ∈ keysT (acc ts []) := List.mem_map.mpr ⟨t, ht, rfl⟩
  rw [acc_mem] at hk
  rcases hk with hk | hk
  · simp [keysT] at hk
  · obtain ⟨u, hu, e⟩ := List.mem_map.mp hk
    rw [← e]; exact hs u hu
/-! ### products -/
def insL (x : Int) : List Int → List Int
  | [] => [x]
  | y :: r => if x ≤ y then x :: y :: r else y :: insL x r
def isort : List Int → List Int
  | [] => []
  | x :: r => insL x (isort r)
theorem insL_perm (x : Int) : ∀ l : List Int, (insL x l).Perm (x :: l)
  | [] => .refl _
  | y :: r => by
    unfold insL
    split
    · exact .refl _
    · exact ((insL_perm x r).cons y).trans (.swap x y r)
theorem insL_sorted {x : Int} : ∀ {l : List Int}, l.Pairwise (· ≤ ·) → (insL x l).Pairwise (· ≤ ·)
  | [], _ => by simp [insL]
  | y :: r, h => by
    rw [List.pairwise_cons] at h
    unfold insL
    split
    · rename_i c
      refine List.pairwise_cons.mpr ⟨fun z hz => ?_, List.pairwise_cons.mpr h⟩
      rcases List.mem_cons.mp hz with rfl | hz
      · exact c
      · have := h.1 z hz; omega
    · refine List.pairwise_cons.mpr ⟨fun z hz => ?_, insL_sorted h.2⟩
      rcases List.mem_cons.mp ((insL_perm x r).mem_iff.mp hz) with rfl | hz
      · omega
      · exact h.1 z hz
theorem isort_perm : ∀ l : List Int, (isort l).Perm l
  | [] => .refl _
  | x :: r => (insL_perm x _).trans ((isort_perm r).cons x)
theorem isort_sorted : ∀ l : List Int, (isort l).Pairwise (· ≤ ·)
  | [] => .nil
  | x :: r => insL_sorted (isort_sorted r)
theorem sorted_eq {xs ys : List Int} (hx : xs.Pairwise (· ≤ ·)) (hy : ys.Pairwise (· ≤ ·)) (h : xs.Perm ys) : xs = ys := h.eq_of_pairwise (fun a b _ _ h1 h2 => by omega) hx hy
theorem isort_self {l : List Int} (h : l.Pairwise (· ≤ ·)) : isort l = l := sorted_eq (isort_sorted l) h (isort_perm l)
theorem isort_len (l : List Int) : (isort l).length = l.length := (isort_perm l).length_eq
/-- two products put together -/
def mg (p q : List Int) : List Int := isort (p ++ q)
theorem mg_sorted (p q : List Int) : (mg p q).Pairwise (· ≤ ·) := isort_sorted _
def pairsT (A B : Tm) : Tm := A.flatMap fun a => B.map fun b => (mg a.1 b.1, a.2 * b.2)
theorem flat_perm {α β : Type} {l : List α} {f g : α → List β} (h : ∀ a ∈ l, (f a).Perm (g a)) : (l.flatMap f).Perm (l.flatMap g) := by
  induction l with
  | nil => exact .refl _
  | cons a r ih =>
    simp only [List.flatMap_cons]
    exact (h a (by simp)).append (ih fun b hb => h b (by simp [hb]))
theorem pairs_perm {A A' B B' : Tm} (ha : A.Perm A') (hb : B.Perm B') : (pairsT A B).Perm (pairsT A' B') := (List.Perm.flatMap_right _ ha).trans (flat_perm fun a _ => hb.map _)
def mulT (A B : Tm) : Tm := acc (pairsT A B) []
theorem mul_perm {A A' B B' : Tm} (ha : A.Perm A') (hb : B.Perm B') : (mulT A B).Perm (mulT A' B') := acc_perm (pairs_perm ha hb)
theorem pairs_ok {A B : Tm} (ha : ∀ t ∈ A, 1 ≤ t.2) (hb : ∀ t ∈ B, 1 ≤ t.2) : ∀ t ∈ pairsT A B, t.1.Pairwise (· ≤ ·) ∧ 1 ≤ t.2 := by
  intro t ht
  obtain ⟨a, h1, h2⟩ := List.mem_flatMap.mp ht
  obtain ⟨b, h3, rfl⟩ := List.mem_map.mp h2
  refine ⟨mg_sorted _ _, ?_⟩
  have := Int.mul_le_mul (ha a h1) (hb b h3) (by omega) (by have := ha a h1; omega)
  simpa using this
theorem mul_good {A B : Tm} (ha : ∀ t ∈ A, 1 ≤ t.2) (hb : ∀ t ∈ B, 1 ≤ t.2) : Gd (mulT A B) := acc_good (fun t ht => (pairs_ok ha hb t ht).1) fun t ht => (pairs_ok ha hb t ht).2
theorem pairs_len (A B : Tm) : (pairsT A B).length = A.length * B.length := by
  unfold pairsT
  induction A with
  | nil => simp
  | cons a r ih => simp [ih, Nat.succ_mul, Nat.add_comm]
theorem mul_len (A B : Tm) : (mulT A B).length ≤ A.length * B.length := by
  have := acc_len (pairsT A B) []
  rw [pairs_len] at this
  simpa [mulT] using this
def oneT : Tm := [([], 1)]
theorem one_good : Gd oneT := ⟨by simp [keysT, oneT], by simp [oneT], by simp [oneT]⟩
/-- a product put in -/
def toldT (S : Int → Tm) (p : List Int) (A : Tm) : Tm := p.foldl (fun B r => mulT B (S r)) A
theorem told_perm {S S' : Int → Tm} : ∀ {p : List Int} {A A' : Tm}, (∀ r ∈ p, (S r).Perm (S' r)) → A.Perm A' → (toldT S p A).Perm (toldT S' p A')
  | [], _, _, _, h => h
  | r :: p, _, _, hs, h => told_perm (p := p) (fun x hx => hs x (by simp [hx])) (mul_perm h (hs r (by simp)))
theorem told_good {S : Int → Tm} : ∀ {p : List Int} {A : Tm}, (∀ r ∈ p, ∀ t ∈ S r, 1 ≤ t.2) → Gd A → Gd (toldT S p A)
  | [], _, _, h => h
  | r :: p, _, hs, h => told_good (p := p) (fun x hx => hs x (by simp [hx])) (mul_good h.pos (hs r (by simp)))
theorem told_len {S : Int → Tm} {k : Nat} : ∀ {p : List Int} {A : Tm}, (∀ r ∈ p, (S r).length ≤ k) → (toldT S p A).length ≤ A.length * k ^ p.length
  | [], A, _ => by simp [toldT]
  | r :: p, A, h => by
    have h1 := told_len (p := p) (A := mulT A (S r)) fun x hx => h x (by simp [hx])
    have h2 := mul_len A (S r)
    have h3 := h r (by simp)
    show (toldT S p (mulT A (S r))).length ≤ _
    refine Nat.le_trans h1 ?_
    rw [List.length_cons, Nat.pow_succ, ← Nat.mul_assoc]
    have h4 : A.length * (S r).length ≤ A.length * k := Nat.mul_le_mul_left _ h3
    have h5 : (mulT A (S r)).length ≤ A.length * k := Nat.le_trans h2 h4
    calc (mulT A (S r)).length * k ^ p.length ≤ (A.length * k) * k ^ p.length := Nat.mul_le_mul_right _ h5
      _ = A.length * k ^ p.length * k := by rw [Nat.mul_assoc, Nat.mul_comm k, Nat.mul_assoc]
def termsT (S : Int → Tm) (W : Tm) : Tm := W.flatMap fun w => (toldT S w.1 oneT).map fun t => (t.1, t.2 * w.2)
def putAll (S : Int → Tm) (W : Tm) : Tm := acc (termsT S W) []
theorem put_perm {S S' : Int → Tm} {W W' : Tm} (hw : W.Perm W') (hs : ∀ w ∈ W', ∀ r ∈ w.1, (S r).Perm (S' r)) : (putAll S W).Perm (putAll S' W') :=
  acc_perm ((List.Perm.flatMap_right _ hw).trans (flat_perm fun w hw => (told_perm (hs w hw) (.refl _)).map _))
/-! ### numbers -/
def prodN (f : Int → Int) : List Int → Int
  | [] => 1
  | r :: p => f r * prodN f p
def numT (f : Int → Int) : Tm → Int
  | [] => 0
  | t :: r => t.2 * prodN f t.1 + numT f r
theorem prodN_perm {f : Int → Int} {p q : List Int} (h : p.Perm q) : prodN f p = prodN f q := by
  induction h with
  | nil => rfl
  | cons x _ ih => simp [prodN, ih]
  | swap x y l => simp only [prodN]; grind
  | trans _ _ i1 i2 => rw [i1, i2]
theorem prodN_app (f : Int → Int) (p q : List Int) : prodN f (p ++ q) = prodN f p * prodN f q := by
  induction p with
  | nil => simp [prodN]
  | cons r p ih => simp only [List.cons_append, prodN, ih]; grind
theorem prodN_mg (f : Int → Int) (p q : List Int) : prodN f (mg p q) = prodN f p * prodN f q := by
  unfold mg
  rw [prodN_perm (isort_perm _), prodN_app]
theorem numT_perm {f : Int → Int} {A B : Tm} (h : A.Perm B) : numT f A = numT f B := by
  induction h with
  | nil => rfl
  | cons x _ ih => simp [numT, ih]
  | swap x y l => simp only [numT]; grind
  | trans _ _ i1 i2 => rw [i1, i2]
theorem numT_app (f : Int → Int) (A B : Tm) : numT f (A ++ B) = numT f A + numT f B := by
  induction A with
  | nil => simp [numT]
  | cons t r ih => simp only [List.cons_append, numT, ih]; grind
theorem numT_put (f : Int → Int) (A : Tm) (p : List Int) (c : Int) : numT f (putT A p (getT A p + c)) = numT f A + c * prodN f p := by
  induction A with
  | nil => simp [putT, getT, numT]
  | cons t r ih =>
    unfold putT getT
    by_cases h : t.1 = p
    · simp only [h, if_true, numT]; grind
    · simp only [h, if_false, numT, ih]; grind
theorem numT_acc (f : Int → Int) : ∀ (ts A : Tm), numT f (acc ts A) = numT f A + numT f ts
  | [], A => by simp [acc, numT]
  | t :: r, A => by
    show numT f (acc r (addT A t)) = _
    rw [numT_acc f r, addT, numT_put, numT]
    grind
theorem numT_map (f : Int → Int) (p : List Int) (c : Int) (B : Tm) : numT f (B.map fun b => (mg p b.1, c * b.2)) = c * prodN f p * numT f B := by
  induction B with
  | nil => simp [numT]
  | cons b r ih => simp only [List.map_cons, numT, ih, prodN_mg]; grind
theorem numT_mul (f : Int → Int) (A B : Tm) : numT f (mulT A B) = numT f A * numT f B := by
  unfold mulT pairsT
  rw [numT_acc]
  simp only [numT, Int.zero_add]
  induction A with
  | nil => simp [numT]
  | cons a r ih => simp only [List.flatMap_cons, numT_app, numT_map, ih, numT]; grind
theorem numT_told (f : Int → Int) (S : Int → Tm) : ∀ (p : List Int) (A : Tm), numT f (toldT S p A) = numT f A * prodN (fun r => numT f (S r)) p
  | [], A => by simp [toldT, prodN]
  | r :: p, A => by
    show numT f (toldT S p (mulT A (S r))) = _
    rw [numT_told f S p, numT_mul, prodN]
    grind
theorem numT_scale (f : Int → Int) (c : Int) (A : Tm) : numT f (A.map fun t => (t.1, t.2 * c)) = c * numT f A := by
  induction A with
  | nil => simp [numT]
  | cons t r ih => simp only [List.map_cons, numT, ih]; grind
theorem numT_putAll (f : Int → Int) (S : Int → Tm) (W : Tm) : numT f (putAll S W) = numT (fun r => numT f (S r)) W := by
  unfold putAll termsT
  rw [numT_acc]
  simp only [numT, Int.zero_add]
  induction W with
  | nil => rfl
  | cons w r ih =>
    simp only [List.flatMap_cons, numT_app, ih, numT, numT_scale, numT_told]
    have : numT f oneT = 1 := by simp [oneT, numT, prodN]
    rw [this]
    grind
end K39
end Mn
set_option Elab.async false
set_option linter.all false
set_option maxRecDepth 100000
set_option maxHeartbeats 1000000
/-! Mq4: data without truth values, stores that nothing leads out of, ranges (turned from the texts for k60). -/
namespace Mn
open PySem
mutual
/-- no truth value, no place within -/
def noBl : D → Bool
  | .non => true
  | .int _ => true
  | .str _ => true
  | .tup xs => noBls xs
  | _ => false
def noBls : List D → Bool
  | [] => true
  | x :: xs => noBl x && noBls xs
end
mutual
theorem eqv_eq : ∀ (a b : D), noBl a = true → noBl b = true → (eqv a b = decide (a = b))
  | .non, b, _, h => by cases b <;> simp_all [eqv, noBl]
  | .int i, b, _, h => by cases b <;> simp_all [eqv, noBl]; rename_i j; by_cases c : i = j <;> simp [c]
  | .str i, b, _, h => by cases b <;> simp_all [eqv, noBl]; rename_i j; by_cases c : i = j <;> simp [c]
  | .tup xs, b, g, h => by
    cases b <;> simp_all [eqv, noBl]
    rename_i ys
    exact eqvs_eq xs ys g h
  | .bl _, b, g, _ => by simp [noBl] at g
  | .seq _, b, g, _ => by simp [noBl] at g
  | .loc _, b, g, _ => by simp [noBl] at g
  | .fn _, b, g, _ => by simp [noBl] at g
theorem eqvs_eq : ∀ (a b : List D), noBls a = true → noBls b = true → (eqvs a b = decide (a = b))
  | [], b, _, h => by cases b <;> simp [eqvs]
  | x :: xs, [], _, h => by simp [eqvs]
  | x :: xs, y :: ys, g, h => by
    simp only [noBls, Bool.and_eq_true] at g h
    simp [eqvs, eqv_eq x y g.1 h.1, eqvs_eq xs ys g.2 h.2]
end
theorem pure_lay {d : D} (h : pureD 12 d = true) : (toPy d).canLay0 = true := (rd_ok (m := []) 12 _ _ (pure_rd 12 d h)).1
theorem pure_eqv {a b : D} (ha : pureD 12 a = true) (hb : pureD 12 b = true) (na : noBl a = true) (nb : noBl b = true) (h : PyData.eqv (toPy a) (toPy b) = true) : a = b := by
  have e := eqv_py 12 12 a b ha hb
  rw [← e, eqv_eq a b na nb] at h
  exact of_decide_eq_true h
mutual
theorem eqv_self : ∀ (n : Nat) (d : D), pureD n d = true → eqv d d = true
  | _, .non, _ => rfl
  | _, .bl b, _ => by cases b <;> rfl
  | _, .int i, _ => by simp [eqv]
  | _, .str s, _ => by simp [eqv]
  | 0, .tup xs, h => by simp [pureD] at h
  | n + 1, .tup xs, h => by
    simp only [pureD] at h
    simp only [eqv]
    exact eqvs_self n xs h
  | _, .seq _, h => by simp [pureD] at h
  | _, .loc _, h => by simp [pureD] at h
  | _, .fn _, h => by simp [pureD] at h
theorem eqvs_self : ∀ (n : Nat) (ds : List D), pureDs n ds = true → eqvs ds ds = true
  | _, [], _ => rfl
  | n, x :: xs, h => by
    simp only [pureDs, Bool.and_eq_true] at h
    simp only [eqvs, eqv_self n x h.1, eqvs_self n xs h.2, Bool.and_self]
end
theorem eqM_self {m : Mem} {d : D} (h : pureD 12 d = true) : eqM m d d = some true := by simp [eqM, h, eqv_self 12 d h]
theorem opNe_self {m : Mem} {d : D} (h : pureD 12 d = true) : opNe d d m = some (.bl false, m) := by simp [opNe, eqM_self h]
theorem eqvAll_self : ∀ {ds : List D} {n : Nat}, pureDs n ds = true → PyData.eqvAll (toPys ds) (toPys ds) = true
  | [], _, _ => by simp [toPys, PyData.eqvAll]
  | x :: xs, n, h => by
    simp only [pureDs, Bool.and_eq_true] at h
    have := eqv_py n n x x h.1 h.1
    rw [eqv_self n x h.1] at this
    simp [toPys, PyData.eqvAll, ← this, eqvAll_self h.2]
theorem eqM_lsts {m : Mem} {a b : Nat} {xs : List D} (ha : m[a]? = some (.lst xs)) (hb : m[b]? = some (.lst xs)) (h : pureDs 11 xs = true) : eqM m (.loc a) (.loc b) = some true := by
  have e : pureD 12 (.loc a) = false := rfl
  unfold eqM
  rw [e]
  simp only [Bool.false_eq_true, false_and, if_false, rd, ha, hb, pure_rds 11 xs h, Option.map_some, PyData.eqv, eqvAll_self h]
theorem opEq_self {m : Mem} {d : D} (h : pureD 12 d = true) : opEq d d m = some (.bl true, m) := by simp [opEq, eqM_self h]
/-- nothing in the store leads out of it -/
def ClM (m : Mem) : Prop := ∀ o ∈ m, closedO m.length o = true
/-- what stands anew in a store of the same size; what was made behind it is forgotten -/
theorem gcO_new {M M' : Mem} {r : D} (hl : M'.length = M.length) (h : ClM M') (x : Mem) (hr : closed M.length r = true) : gcO M (.ok r (M' ++ x)) = .ok r M' := by
  have e : (M' ++ x).take M.length = M' := by
    rw [← hl]; exact take_app M' x
  have hc : cutOk M (M' ++ x) = true := by
    simp only [cutOk, Bool.or_eq_true, Bool.and_eq_true, decide_eq_true_eq, e, List.all_eq_true]
    refine .inr ⟨by simp; omega, fun o ho => ?_⟩
    have := h o ho
    rwa [hl] at this
  simp only [gcO, hc, hr, e]
  simp
theorem ClM.put {m : Mem} (h : ClM m) {o : O} (ho : closedO m.length o = true) (l : Nat) : ClM (m.set l o) := by
  intro o' h'
  rw [List.length_set]
  rcases List.mem_or_eq_of_mem_set h' with h' | rfl
  · exact h _ h'
  · exact ho
theorem ClM.get {m : Mem} (h : ClM m) {o : O} {l : Nat} (ho : m[l]? = some o) : closedO m.length o = true := h o (List.mem_of_getElem? ho)
theorem ClM.app {m : Mem} (h : ClM m) {o : O} (ho : closedO (m.length + 1) o = true) : ClM (m ++ [o]) := by
  intro o' h'
  rcases List.mem_append.mp h' with h' | h'
  · exact closedO_mono (by simp) o' (h o' h')
  · rw [List.mem_singleton.mp h', List.length_append]
    exact ho
theorem iRange1_if {dA : DenA} {fe : FE} {ρ : Env} {m m1 : Mem} {j : Int} (h : dA fe ρ m = .ok [.int j] m1) : iRange1 dA fe ρ m = if -(2 ^ 62) ≤ j ∧ j < 2 ^ 62 then .ok ⟨rangeD 0 j.toNat, [], none⟩ m1 else .bad := by
  unfold iRange1
  rw [h, Out.bind_ok]
theorem irange1_ev {dA : DenA} {fe : FE} {ρ : Env} {m m1 : Mem} {k : Nat} (hk : k ≤ 1000) (h : dA fe ρ m = .ok [.int k] m1) : iRange1 dA fe ρ m = .ok ⟨rangeD 0 k, [], none⟩ m1 := by
  have e : -(2 ^ 62) ≤ (k : Int) ∧ (k : Int) < 2 ^ 62 := by omega
  rw [iRange1_if h, if_pos e, Int.toNat_natCast]
theorem rangeD_len (k : Nat) : (rangeD 0 k).length = k := by simp [rangeD]
theorem rangeD_mem {k : Nat} {x : D} (h : x ∈ rangeD 0 k) : ∃ j : Nat, x = .int j ∧ j < k := by
  simp only [rangeD, List.mem_map] at h
  obtain ⟨j, hj, rfl⟩ := h
  simp at hj
  exact ⟨j, by simp, by omega⟩
theorem seq_step {sa sb : DenS} {fe : FE} {ρ ρ' : Env} {m m' : Mem} {r : OutS} (h : sa fe ρ m = .next ρ' m') (g : sb fe ρ' m' = r) : sSeq sa sb fe ρ m = r := by rw [sSeq_ev, h, seq_next, g]
theorem sortItems_of {l : Nat} {kvs : List (D × D)} {lk : Bool} {m : Mem} (h : m[l]? = some (.dict kvs lk)) (hs : sortable (kvs.map pairD) = true) (hl : kvs.length ≤ 1000) : bSortItems [.loc l] m = some (.loc m.length, m ++ [.lst (sortD (kvs.map pairD))]) := by
  have z := sizeLine_is
  simp only [bSortItems, h, hs, true_and]
  rw [if_pos (by omega)]
theorem dPut_len (kvs : List (D × D)) (k v : D) : (dPut kvs k v).length ≤ kvs.length + 1 := by
  unfold dPut
  split
  · simp
  · simp
theorem dPut_keys {kvs : List (D × D)} {k v : D} : (dPut kvs k v).map (·.1) = if k ∈ kvs.map (·.1) then kvs.map (·.1) else kvs.map (·.1) ++ [k] := by
  have hg : (dGet kvs k).isSome = decide (k ∈ kvs.map (·.1)) := by
    unfold dGet
    rw [Option.isSome_map, Bool.eq_iff_iff, List.find?_isSome]
    simp
  unfold dPut
  rw [hg]
  by_cases c : k ∈ kvs.map (·.1)
  · simp only [c, decide_true, if_true, List.map_map]
    refine List.map_congr_left fun p hp => ?_
    simp only [Function.comp_apply]
    split <;> simp_all
  · simp [c]
theorem dPut_nodup {kvs : List (D × D)} {k v : D} (h : (kvs.map (·.1)).Nodup) : ((dPut kvs k v).map (·.1)).Nodup := by
  rw [dPut_keys]
  split
  · exact h
  · rename_i c
    exact List.nodup_append.mpr ⟨h, by simp, fun a ha b hb => by
      rw [List.mem_singleton.mp hb]
      intro e
      exact c (e ▸ ha)⟩
theorem dPut_mem {kvs : List (D × D)} {k v : D} {p : D × D} (h : p ∈ dPut kvs k v) : (p = (k, v)) ∨ p ∈ kvs ∨ (∃ w, (p.1, w) ∈ kvs ∧ p = (k, v)) := by
  unfold dPut at h
  split at h
  · obtain ⟨q, hq, e⟩ := List.mem_map.mp h
    by_cases c : q.1 = k
    · rw [if_pos c] at e
      exact .inl (by rw [← e, c])
    · rw [if_neg c] at e
      exact .inr (.inl (e ▸ hq))
  · rcases List.mem_append.mp h with h | h
    · exact .inr (.inl h)
    · exact .inl (List.mem_singleton.mp h)
theorem dPut_all {kvs : List (D × D)} {k v : D} {P : D × D → Prop} (h : ∀ p ∈ kvs, P p) (h2 : P (k, v)) : ∀ p ∈ dPut kvs k v, P p := fun p hp => by
  rcases dPut_mem hp with rfl | hp | ⟨w, _, rfl⟩
  · exact h2
  · exact h p hp
  · exact h2
theorem set_app_len {m t : Mem} {l : Nat} {o : O} (h : l < m.length) : (m ++ t).set l o = m.set l o ++ t := List.set_append_left _ _ h
theorem set_self {m : Mem} {l : Nat} {o : O} (h : m[l]? = some o) : m.set l o = m := by
  obtain ⟨hl, e⟩ := List.getElem?_eq_some_iff.mp h
  rw [← e]
  exact List.set_getElem_self hl
theorem sort_mem {xs : List D} {d : D} : d ∈ sortD xs ↔ d ∈ xs := by unfold sortD; exact List.mem_mergeSort
theorem sort_all {xs : List D} {p : D → Bool} (h : xs.all p = true) : (sortD xs).all p = true := List.all_eq_true.mpr fun x hx => List.all_eq_true.mp h x (sort_mem.mp hx)
theorem sort_len (xs : List D) : (sortD xs).length = xs.length := by unfold sortD; exact List.length_mergeSort _
end Mn
set_option Elab.async false
set_option linter.all false
set_option maxRecDepth 100000
set_option maxHeartbeats 1000000
namespace Mn
namespace K39
open PySem
/-- the dict of these -/
def kvK (K : List Int → D) (A : Tm) : List (D × D) := A.map fun t => (K t.1, .int t.2)
theorem kvK_keys (K : List Int → D) (A : Tm) : (kvK K A).map (·.1) = (keysT A).map K := by simp [kvK, keysT]
theorem kvK_len (K : List Int → D) (A : Tm) : (kvK K A).length = A.length := by simp [kvK]
/-- a way to write keys -/
structure KeyF (K : List Int → D) (Ok : List Int → Prop) : Prop where
  inj : ∀ p q, Ok p → Ok q → K p = K q → p = q
  kind : (∀ p, Ok p → (keyM (K p)).isSome = true) ∨ (∀ p, Ok p → (keyT (K p)).isSome = true)
  pure : ∀ p, Ok p → pureD 11 (K p) = true ∧ pureD 12 (K p) = true
  nobl : ∀ p, Ok p → noBl (K p) = true
  clo : ∀ n p, Ok p → closed n (K p) = true
  cmp : ∀ p q, Ok p → Ok q → comp (toPy (K p)) (toPy (K q)) = true
section
variable {K : List Int → D} {Ok : List Int → Prop} (hk : KeyF K Ok) {A B : Tm} {p : List Int} {c : Int} {M : Mem} {L : Nat}
include hk
theorem kvK_get (ha : ∀ q ∈ keysT A, Ok q) (hp : Ok p) : dGet (kvK K A) (K p) = if p ∈ keysT A then some (.int (getT A p)) else none := by
  induction A with
  | nil => rfl
  | cons t r ih =>
    have h1 : Ok t.1 := ha _ (by simp [keysT])
    have ih := ih fun q hq => ha q (by simp only [keysT, List.map_cons, List.mem_cons]; exact .inr hq)
    simp only [kvK, dGet, List.map_cons, List.find?_cons, keysT, List.mem_cons, getT] at ih ⊢
    by_cases e : t.1 = p
    · subst e; simp
    · have e1 : ¬ K t.1 = K p := fun z => e (hk.inj _ _ h1 hp z)
      have e2 : ¬ p = t.1 := fun z => e z.symm
      simp only [e1, decide_false, e2, false_or, e, if_false]
      exact ih
theorem kvK_map_id (ha : ∀ q ∈ keysT A, Ok q) (hp : Ok p) (h : p ∉ keysT A) {v : D} : (kvK K A).map (fun q => if q.1 = K p then (q.1, v) else q) = kvK K A := by
  refine (List.map_congr_left fun q hq => ?_).trans (List.map_id _)
  obtain ⟨t, ht, rfl⟩ := List.mem_map.mp hq
  have hm : t.1 ∈ keysT A := List.mem_map.mpr ⟨t, ht, rfl⟩
  have e : ¬ K t.1 = K p := fun z => h (hk.inj _ _ (ha _ hm) hp z ▸ hm)
  simp [e]
theorem kvK_map (ha : ∀ q ∈ keysT A, Ok q) (nd : (keysT A).Nodup) (hp : Ok p) (h : p ∈ keysT A) : (kvK K A).map (fun q => if q.1 = K p then (q.1, .int c) else q) = kvK K (putT A p c) := by
  induction A with
  | nil => simp [keysT] at h
  | cons t r ih =>
    have h1 : Ok t.1 := ha _ (by simp [keysT])
    have hr : ∀ q ∈ keysT r, Ok q := fun q hq => ha q (by simp only [keysT, List.map_cons, List.mem_cons]; exact .inr hq)
    simp only [keysT, List.map_cons, List.nodup_cons] at nd
    by_cases e : t.1 = p
    · subst e
      have := kvK_map_id hk (v := .int c) hr hp nd.1
      simp only [kvK, List.map_cons, putT, if_true] at this ⊢
      rw [this]
    · have e1 : ¬ K t.1 = K p := fun z => e (hk.inj _ _ h1 hp z)
      have h' : p ∈ keysT r := by
        simp only [keysT, List.map_cons, List.mem_cons] at h
        rcases h with h | h
        · exact absurd h.symm e
        · exact h
      have := ih hr nd.2 h'
      simp only [kvK, List.map_cons, putT, e, e1, if_false] at this ⊢
      rw [this]
omit hk in
theorem put_new (h : p ∉ keysT A) : putT A p c = A ++ [(p, c)] := by
  induction A with
  | nil => rfl
  | cons t r ih =>
    simp only [keysT, List.map_cons, List.mem_cons, not_or] at h
    unfold putT
    rw [if_neg (fun e => h.1 e.symm), ih h.2]
    rfl
theorem kvK_put (ha : ∀ q ∈ keysT A, Ok q) (nd : (keysT A).Nodup) (hp : Ok p) : dPut (kvK K A) (K p) (.int c) = kvK K (putT A p c) := by
  unfold dPut
  rw [kvK_get hk ha hp]
  by_cases h : p ∈ keysT A
  · simp only [h, if_true, Option.isSome_some]
    exact kvK_map hk ha nd hp h
  · simp only [h, if_false, Option.isSome_none, Bool.false_eq_true]
    rw [put_new h]
    simp [kvK]
theorem kvK_kind (ha : ∀ q ∈ keysT A, Ok q) (hp : Ok p) : kindOk (kvK K A) (K p) = true := by
  have hm : ∀ q ∈ kvK K A, ∃ r, Ok r ∧ q.1 = K r := fun q hq => by
    obtain ⟨t, ht, rfl⟩ := List.mem_map.mp hq
    exact ⟨t.1, ha _ (List.mem_map.mpr ⟨t, ht, rfl⟩), rfl⟩
  unfold kindOk
  rcases hk.kind with h | h
  · have : ((kvK K A).all fun q => (keyM q.1).isSome) = true := List.all_eq_true.mpr fun q hq => by
      obtain ⟨r, h1, e⟩ := hm q hq
      rw [e]; exact h r h1
    rw [h p hp, this]
    rfl
  · have : ((kvK K A).all fun q => (keyT q.1).isSome) = true := List.all_eq_true.mpr fun q hq => by
      obtain ⟨r, h1, e⟩ := hm q hq
      rw [e]; exact h r h1
    rw [h p hp, this]
    simp
theorem upd_get (ha : ∀ q ∈ keysT A, Ok q) (hp : Ok p) {lk : Bool} (hM : M[L]? = some (.dict (kvK K A) lk)) : fGet (.loc L) [K p, .int 0] M = some (.int (getT A p), M) := by
  simp only [fGet, hM, kvK_kind hk ha hp, if_true, kvK_get hk ha hp]
  by_cases h : p ∈ keysT A
  · simp [h]
  · simp [h, get_none h]
theorem upd_set (ha : ∀ q ∈ keysT A, Ok q) (nd : (keysT A).Nodup) (hp : Ok p) (hM : M[L]? = some (.dict (kvK K A) false)) (hl : A.length < 1000000) : setD (.loc L) (K p) (.int (getT A p + c)) M = some (M.set L (.dict (kvK K (addT A (p, c))) false)) := by
  have z := sizeLine_is
  have h1 := dPut_len (kvK K A) (K p) (.int (getT A p + c))
  rw [kvK_len] at h1
  simp only [setD, hM, kvK_kind hk ha hp, true_and]
  rw [if_pos (by omega), kvK_put hk ha nd hp]
  rfl
theorem ix_get (ha : ∀ q ∈ keysT A, Ok q) (hp : p ∈ keysT A) {lk : Bool} (hM : M[L]? = some (.dict (kvK K A) lk)) : opIx (.loc L) (K p) M = some (.int (getT A p), M) := by
  simp only [opIx, hM, kvK_kind hk ha (ha p hp), if_true, kvK_get hk ha (ha p hp), hp, Option.map_some]
theorem kvK_sortable (ha : ∀ q ∈ keysT A, Ok q) : sortable ((kvK K A).map pairD) = true := by
  have hm : ∀ x ∈ (kvK K A).map pairD, ∃ r c, Ok r ∧ x = .tup [K r, .int c] := fun x hx => by
    obtain ⟨q, hq, rfl⟩ := List.mem_map.mp hx
    obtain ⟨t, ht, rfl⟩ := List.mem_map.mp hq
    exact ⟨t.1, t.2, ha _ (List.mem_map.mpr ⟨t, ht, rfl⟩), rfl⟩
  simp only [sortable, Bool.and_eq_true, List.all_eq_true]
  refine ⟨fun x hx => ?_, fun x hx y hy => ?_⟩
  · obtain ⟨r, c, h1, rfl⟩ := hm x hx
    simp [pureD, pureDs, (hk.pure r h1).1]
  · obtain ⟨r, c, h1, rfl⟩ := hm x hx
    obtain ⟨r', c', h2, rfl⟩ := hm y hy
    simp only [toPy, toPys, comp, compAll, hk.cmp r r' h1 h2]
    split <;> simp
theorem kvK_sorted (ha : ∀ q ∈ keysT A, Ok q) (nd : (keysT A).Nodup) : (sortD ((kvK K A).map pairD)).Pairwise (fun a b => ltD a b = true) ∧ ∃ A' : Tm, A'.Perm A ∧ sortD ((kvK K A).map pairD) = (kvK K A').map pairD ∧ ((keysT A').map K).Pairwise (fun a b => ltD a b = true) := by
  have hm : ∀ q ∈ kvK K A, ∃ r, Ok r ∧ q.1 = K r := fun q hq => by
    obtain ⟨t, ht, rfl⟩ := List.mem_map.mp hq
    exact ⟨t.1, ha _ (List.mem_map.mpr ⟨t, ht, rfl⟩), rfl⟩
  have ndk : ((kvK K A).map (·.1)).Nodup := by
    rw [kvK_keys]
    refine List.pairwise_map.mpr (List.Pairwise.imp_of_mem (fun {a b} h1 h2 h e => h (hk.inj a b (ha a h1) (ha b h2) e)) nd)
  obtain ⟨qs, e1, e2, e3⟩ := sort_fst (ps := kvK K A) (fun p hp => by
    obtain ⟨r, h1, e⟩ := hm p hp
    rw [e]; exact pure_lay (hk.pure r h1).2) (fun p hp q hq => by
    obtain ⟨r, h1, e⟩ := hm p hp
    obtain ⟨r', h2, e'⟩ := hm q hq
    rw [e, e']; exact hk.cmp r r' h1 h2) (fun p hp q hq c => by
    obtain ⟨r, h1, e⟩ := hm p hp
    obtain ⟨r', h2, e'⟩ := hm q hq
    rw [e, e'] at c ⊢
    exact pure_eqv (hk.pure r h1).2 (hk.pure r' h2).2 (hk.nobl r h1) (hk.nobl r' h2) c) ndk
  obtain ⟨A', hA, rfl⟩ : ∃ A' : Tm, A'.Perm A ∧ qs = kvK K A' := by
    have : ∀ (qs : List (D × D)) (A : Tm), qs.Perm (kvK K A) → ∃ A' : Tm, A'.Perm A ∧ qs = kvK K A' := by
      intro qs
      induction qs with
      | nil =>
        intro A h
        have : kvK K A = [] := h.symm.eq_nil
        cases A with
        | nil => exact ⟨[], .refl _, rfl⟩
        | cons t r => simp [kvK] at this
      | cons q qs ih =>
        intro A h
        have hq : q ∈ kvK K A := h.mem_iff.mp (by simp)
        obtain ⟨t, ht, rfl⟩ := List.mem_map.mp hq
        obtain ⟨l1, l2, rfl⟩ := List.append_of_mem ht
        have h2 : qs.Perm (kvK K (l1 ++ l2)) := by
          have e : (kvK K (l1 ++ t :: l2)).Perm ((K t.1, .int t.2) :: kvK K (l1 ++ l2)) := by
            simp only [kvK, List.map_append, List.map_cons]
            exact List.perm_middle
          exact List.Perm.cons_inv (h.trans e)
        obtain ⟨A', h3, rfl⟩ := ih (l1 ++ l2) h2
        exact ⟨t :: A', (h3.cons t).trans List.perm_middle.symm, rfl⟩
    exact this qs A e2
  refine ⟨?_, A', hA, e1, by rw [← kvK_keys]; exact e3⟩
  rw [e1]
  rw [List.pairwise_map] at e3 ⊢
  refine List.Pairwise.imp_of_mem (fun {a b} ha' hb' h => ?_) e3
  obtain ⟨r, h1, ea⟩ := hm a (e2.mem_iff.mp ha')
  obtain ⟨r', h2, eb⟩ := hm b (e2.mem_iff.mp hb')
  have hne : PyData.eqv (toPy a.1) (toPy b.1) = false := by
    cases c : PyData.eqv (toPy a.1) (toPy b.1) with
    | false => rfl
    | true =>
      rw [ea, eb] at c h
      have := pure_eqv (hk.pure r h1).2 (hk.pure r' h2).2 (hk.nobl r h1) (hk.nobl r' h2) c
      rw [this, ltD_irrefl] at h
      cases h
  rw [show pairD a = .tup [a.1, a.2] from rfl, show pairD b = .tup [b.1, b.2] from rfl, ltD_pair (by rw [ea]; exact pure_lay (hk.pure r h1).2) (by rw [ea, eb]; exact hk.cmp r r' h1 h2) hne]
  exact h
theorem kvK_perm (ha : ∀ q ∈ keysT A, Ok q) (nd : (keysT A).Nodup) (h : A.Perm B) : sortD ((kvK K A).map pairD) = sortD ((kvK K B).map pairD) := by
  have hkk : (keysT A).Perm (keysT B) := h.map _
  refine asc_unique (kvK_sorted hk ha nd).1 (kvK_sorted hk (fun q hq => ha q (hkk.mem_iff.mpr hq)) (hkk.nodup_iff.mp nd)).1 fun d => ?_
  rw [sort_mem, sort_mem]
  have : ((kvK K A).map pairD).Perm ((kvK K B).map pairD) := (h.map _).map _
  exact this.mem_iff
theorem kvK_closedO (ha : ∀ q ∈ keysT A, Ok q) {n : Nat} {lk : Bool} : closedO n (.dict (kvK K A) lk) = true := by
  simp only [closedO, List.all_eq_true, Bool.and_eq_true]
  intro q hq
  obtain ⟨t, ht, rfl⟩ := List.mem_map.mp hq
  exact ⟨hk.clo n _ (ha _ (List.mem_map.mpr ⟨t, ht, rfl⟩)), rfl⟩
theorem kvK_items_closed (ha : ∀ q ∈ keysT A, Ok q) {n : Nat} : closed n (.tup (sortD ((kvK K A).map pairD))) = true := by
  simp only [closed, closeds_all, List.all_eq_true]
  intro d hd
  obtain ⟨q, hq, rfl⟩ := List.mem_map.mp (sort_mem.mp hd)
  obtain ⟨t, ht, rfl⟩ := List.mem_map.mp hq
  simp [pairD, closed, closeds, hk.clo n _ (ha _ (List.mem_map.mpr ⟨t, ht, rfl⟩))]
end
end K39
end Mn
set_option Elab.async false
set_option linter.all false
set_option maxRecDepth 100000
set_option maxHeartbeats 1000000
namespace Mn
namespace K39
open PySem
theorem rowI_noBl : ∀ {xs : List D}, xs.all rowI = true → noBls xs = true
  | [], _ => rfl
  | x :: xs, h => by
    simp only [List.all_cons, Bool.and_eq_true] at h
    obtain ⟨r, t, rfl⟩ := rowI_shape h.1
    simp [noBls, noBl, rowI_noBl h.2]
theorem rowI_keyNs : ∀ {xs : List D}, xs.all rowI = true → ∃ ks, keyNs xs = some ks ∧ NestedKey.depthAll ks ≤ 1
  | [], _ => ⟨[], rfl, by simp [NestedKey.depthAll]⟩
  | x :: xs, h => by
    simp only [List.all_cons, Bool.and_eq_true] at h
    obtain ⟨r, t, rfl⟩ := rowI_shape h.1
    obtain ⟨ks, h1, h2⟩ := rowI_keyNs h.2
    exact ⟨.tup [.num r, .num t] :: ks, by simp [keyNs, keyN, h1], by simp [NestedKey.depthAll, NestedKey.depth]; omega⟩
theorem rowI_keyT {xs : List D} (h : xs.all rowI = true) : (keyT (.tup xs)).isSome = true := by
  obtain ⟨ks, h1, h2⟩ := rowI_keyNs h
  have : NestedKey.depth (.tup ks) ≤ 8 := by simp [NestedKey.depth]; omega
  simp [keyT, keyN, h1, this]
theorem rowI_closed {k : Nat} : ∀ {xs : List D}, xs.all rowI = true → closeds k xs = true
  | [], _ => rfl
  | x :: xs, h => by
    simp only [List.all_cons, Bool.and_eq_true] at h
    obtain ⟨r, t, rfl⟩ := rowI_shape h.1
    simp [closeds, closed, rowI_closed h.2]
/-! ### ints -/
theorem int_keyNs : ∀ (p : List Int), ∃ ks, keyNs (p.map D.int) = some ks ∧ NestedKey.depthAll ks = 0
  | [] => ⟨[], rfl, by simp [NestedKey.depthAll]⟩
  | x :: xs => by
    obtain ⟨ks, h1, h2⟩ := int_keyNs xs
    exact ⟨.num x :: ks, by simp [keyNs, keyN, h1], by simp [NestedKey.depthAll, NestedKey.depth, h2]⟩
theorem int_pure {k : Nat} : ∀ (p : List Int), pureDs k (p.map D.int) = true
  | [] => rfl
  | x :: xs => by simp [pureDs, pureD, int_pure xs]
theorem int_noBl : ∀ (p : List Int), noBls (p.map D.int) = true
  | [] => rfl
  | x :: xs => by simp [noBls, noBl, int_noBl xs]
theorem int_closed {k : Nat} : ∀ (p : List Int), closeds k (p.map D.int) = true
  | [] => rfl
  | x :: xs => by simp [closeds, closed, int_closed xs]
theorem int_comp : ∀ (p q : List Int), compAll (toPys (p.map D.int)) (toPys (q.map D.int)) = true
  | [], q => by simp [toPys, compAll]
  | x :: xs, [] => by simp [toPys, compAll]
  | x :: xs, y :: ys => by simp only [List.map_cons, toPys, toPy, compAll, comp, int_comp xs ys, ite_self]
theorem int_inj : ∀ {p q : List Int}, p.map D.int = q.map D.int → p = q
  | [], [], _ => rfl
  | [], _ :: _, h => by simp at h
  | _ :: _, [], h => by simp at h
  | x :: xs, y :: ys, h => by
    simp only [List.map_cons, List.cons.injEq, D.int.injEq] at h
    rw [h.1, int_inj h.2]
theorem ints_sortable (p : List Int) : sortable (p.map D.int) = true := by
  simp only [sortable, Bool.and_eq_true, List.all_eq_true]
  refine ⟨fun x hx => ?_, fun x hx y hy => ?_⟩
  · obtain ⟨i, _, rfl⟩ := List.mem_map.mp hx
    rfl
  · obtain ⟨i, _, rfl⟩ := List.mem_map.mp hx
    obtain ⟨j, _, rfl⟩ := List.mem_map.mp hy
    rfl
theorem ltD_int (i j : Int) : ltD (.int i) (.int j) = decide (i < j) := by simp [ltD, toPy, PySem.W.dataLt_int]
theorem sort_ints (p : List Int) : sortD (p.map D.int) = (isort p).map D.int := by
  have hp := sort_perm (p.map D.int)
  have hw := sort_pairwise (p.map D.int)
  obtain ⟨q, e, hq⟩ : ∃ q : List Int, sortD (p.map D.int) = q.map D.int ∧ q.Perm p := by
    have hm : ∀ d ∈ sortD (p.map D.int), ∃ i, d = .int i := fun d hd => by
      obtain ⟨i, _, rfl⟩ := List.mem_map.mp (hp.mem_iff.mp hd)
      exact ⟨i, rfl⟩
    let f : D → Int := fun d => match d with
      | .int i => i
      | _ => 0
    have hf : ∀ i, f (.int i) = i := fun i => rfl
    refine ⟨(sortD (p.map D.int)).map f, ?_, ?_⟩
    · rw [List.map_map]
      conv => lhs; rw [← List.map_id (sortD (p.map D.int))]
      refine List.map_congr_left fun d hd => ?_
      obtain ⟨i, rfl⟩ := hm d hd
      rfl
    · have := hp.map f
      rw [List.map_map] at this
      have e : (f ∘ D.int) = id := funext hf
      rwa [e, List.map_id] at this
  rw [e] at hw ⊢
  rw [sorted_eq (xs := q) (ys := isort p) ?_ (isort_sorted p) (hq.trans (isort_perm p).symm)]
  rw [List.pairwise_map] at hw
  exact hw.imp fun {a b} h => by
    rw [ltD_int] at h
    have := of_decide_eq_false h
    omega
/-! ### keys -/
def K1 : List Int → D
  | [r] => .int r
  | _ => .non
def Ok1 (p : List Int) : Prop := ∃ r, p = [r]
theorem kf1 : KeyF K1 Ok1 where
  inj := by
    rintro _ _ ⟨r, rfl⟩ ⟨s, rfl⟩ h
    simp only [K1, D.int.injEq] at h
    rw [h]
  kind := .inl (by rintro _ ⟨r, rfl⟩; rfl)
  pure := by rintro _ ⟨r, rfl⟩; exact ⟨rfl, rfl⟩
  nobl := by rintro _ ⟨r, rfl⟩; rfl
  clo := by rintro n _ ⟨r, rfl⟩; rfl
  cmp := by rintro _ _ ⟨r, rfl⟩ ⟨s, rfl⟩; rfl
def rowK (p : List Int) : D := .tup (p.map D.int)
theorem kfR : KeyF rowK (fun _ => True) where
  inj := fun p q _ _ h => by
    simp only [rowK, D.tup.injEq] at h
    exact int_inj h
  kind := .inr fun p _ => by
    obtain ⟨ks, h1, h2⟩ := int_keyNs p
    have : NestedKey.depth (.tup ks) ≤ 8 := by simp [NestedKey.depth, h2]
    simp [rowK, keyT, keyN, h1, this]
  pure := fun p _ => ⟨by simp [rowK, pureD, int_pure], by simp [rowK, pureD, int_pure]⟩
  nobl := fun p _ => by simp [rowK, noBl, int_noBl]
  clo := fun n p _ => by simp [rowK, closed, int_closed]
  cmp := fun p q _ _ => by simp [rowK, toPy, comp, int_comp]
/-- how often each row comes -/
def cntT (p : List Int) : Tm := (usort p).map fun r => ([r], (p.count r : Int))
/-- a product as the program writes it -/
def prD (p : List Int) : D := .tup ((kvK K1 (cntT p)).map pairD)
theorem cnt_ok (p : List Int) : ∀ q ∈ keysT (cntT p), Ok1 q := fun q hq => by
  obtain ⟨t, ht, rfl⟩ := List.mem_map.mp hq
  obtain ⟨r, _, rfl⟩ := List.mem_map.mp ht
  exact ⟨r, rfl⟩
theorem usort_nodup (p : List Int) : (usort p).Nodup := (usort_asc p).imp fun {a b} h e => by omega
theorem cnt_nd (p : List Int) : (keysT (cntT p)).Nodup := by
  simp only [keysT, cntT, List.map_map]
  exact List.pairwise_map.mpr ((usort_nodup p).imp fun h e => h (by simpa using e))
theorem get_single {f : Int → Int} : ∀ (l : List Int) (r : Int), getT (l.map fun x => ([x], f x)) [r] = if r ∈ l then f r else 0
  | [], r => rfl
  | x :: l, r => by
    simp only [List.map_cons, getT, List.mem_cons, List.cons.injEq, and_true]
    by_cases e : x = r
    · subst e; simp
    · have e' : ¬ r = x := fun z => e z.symm
      simp only [e, e', if_false, false_or]
      exact get_single l r
theorem cnt_get (p : List Int) (r : Int) : getT (cntT p) [r] = p.count r := by
  unfold cntT
  rw [get_single (f := fun x => (p.count x : Int))]
  by_cases h : r ∈ p
  · rw [if_pos (usort_mem.mpr h)]
  · rw [if_neg (fun z => h (usort_mem.mp z)), List.count_eq_zero_of_not_mem h]
    rfl
theorem cnt_mem {p : List Int} {q : List Int} : q ∈ keysT (cntT p) ↔ ∃ r ∈ p, q = [r] := by
  simp only [keysT, cntT, List.map_map, List.mem_map, Function.comp_apply, usort_mem]
  constructor
  · rintro ⟨r, h, rfl⟩; exact ⟨r, h, rfl⟩
  · rintro ⟨r, h, rfl⟩; exact ⟨r, h, rfl⟩
theorem cnt_sorted (p : List Int) : ((kvK K1 (cntT p)).map pairD).Pairwise (fun a b => ltD a b = true) := by
  simp only [kvK, cntT, List.map_map]
  rw [List.pairwise_map]
  refine (usort_asc p).imp fun {a b} h => ?_
  simp only [Function.comp_apply, pairD, K1]
  rw [ltD_pair rfl rfl (by simp [toPy, PyData.eqv]; omega), ltD_int]
  exact decide_eq_true h
/-- the sorted items of a dict of counts -/
theorem items_cnt {X : Tm} {s : List Int} (h : X.Perm (cntT s)) : sortD ((kvK K1 X).map pairD) = (kvK K1 (cntT s)).map pairD := by
  have hkk : (keysT X).Perm (keysT (cntT s)) := h.map _
  refine asc_unique (kvK_sorted kf1 (fun q hq => cnt_ok s q (hkk.mem_iff.mp hq)) (hkk.nodup_iff.mpr (cnt_nd s))).1 (cnt_sorted s) fun d => ?_
  rw [sort_mem]
  have : ((kvK K1 X).map pairD).Perm ((kvK K1 (cntT s)).map pairD) := (h.map _).map _
  exact this.mem_iff
theorem acc_cnt (p q : List Int) : (acc (cntT q) (cntT p)).Perm (cntT (mg p q)) := by
  refine perm_of (acc_nodup (cnt_nd p)) (cnt_nd _) (fun k => ?_) fun k => ?_
  · rw [acc_mem, cnt_mem, cnt_mem, cnt_mem]
    have hm : ∀ r, r ∈ mg p q ↔ r ∈ p ∨ r ∈ q := fun r => by
      rw [mg, (isort_perm _).mem_iff, List.mem_append]
    constructor
    · rintro (⟨r, h, e⟩ | ⟨r, h, e⟩)
      · exact ⟨r, (hm r).mpr (.inl h), e⟩
      · exact ⟨r, (hm r).mpr (.inr h), e⟩
    · rintro ⟨r, h, e⟩
      rcases (hm r).mp h with h | h
      · exact .inl ⟨r, h, e⟩
      · exact .inr ⟨r, h, e⟩
  · rw [acc_get, tot_self (cnt_nd q)]
    by_cases hk : ∃ r, k = [r]
    · obtain ⟨r, rfl⟩ := hk
      rw [cnt_get, cnt_get, cnt_get, mg, (isort_perm _).count_eq, List.count_append]
      omega
    · have hn : ∀ s : List Int, getT (cntT s) k = 0 := fun s => get_none fun h => by
        obtain ⟨r, _, e⟩ := cnt_mem.mp h
        exact hk ⟨r, e⟩
      rw [hn, hn, hn]; rfl
theorem prD_rows (p : List Int) : ((kvK K1 (cntT p)).map pairD).all rowI = true := by
  simp only [List.all_map, List.all_eq_true, Function.comp_apply, kvK, cntT]
  intro r hr
  rfl
theorem prD_inj {p q : List Int} (hp : p.Pairwise (· ≤ ·)) (hq : q.Pairwise (· ≤ ·)) (h : prD p = prD q) : p = q := by
  have hc : ∀ r, p.count r = q.count r := fun r => by
    have e : cntT p = cntT q := by
      simp only [prD, D.tup.injEq, kvK, cntT, List.map_map] at h
      have hh : ∀ (l l' : List Int) (f g : Int → Int), l.map ((pairD ∘ fun t : List Int × Int => (K1 t.1, D.int t.2)) ∘ fun r => ([r], f r)) = l'.map ((pairD ∘ fun t : List Int × Int => (K1 t.1, D.int t.2)) ∘ fun r => ([r], g r)) → l.map (fun r => ([r], f r)) = l'.map (fun r => ([r], g r)) := by
        intro l
        induction l with
        | nil =>
          intro l' f g h
          cases l' with
          | nil => rfl
          | cons _ _ => simp at h
        | cons x l ih =>
          intro l' f g h
          cases l' with
          | nil => simp at h
          | cons y l' =>
            simp only [List.map_cons, List.cons.injEq, Function.comp_apply, pairD, K1, D.tup.injEq, D.int.injEq, and_true] at h
            obtain ⟨⟨e1, e2⟩, h⟩ := h
            simp only [List.map_cons, e1, List.cons.injEq, Prod.mk.injEq, true_and]
            exact ⟨by rw [← e2, e1], ih l' f g h⟩
      exact hh _ _ _ _ h
    have := cnt_get p r
    rw [e, cnt_get] at this
    omega
  exact sorted_eq hp hq (List.perm_iff_count.mpr hc)
theorem kfP : KeyF prD (fun p => p.Pairwise (· ≤ ·)) where
  inj := fun p q hp hq h => prD_inj hp hq h
  kind := .inr fun p _ => rowI_keyT (prD_rows p)
  pure := fun p _ => ⟨by simp only [prD, pureD]; exact rowI_pure (k := 9) (prD_rows p), by simp only [prD, pureD]; exact rowI_pure (k := 10) (prD_rows p)⟩
  nobl := fun p _ => by simp only [prD, noBl]; exact rowI_noBl (prD_rows p)
  clo := fun n p _ => by simp only [prD, closed]; exact rowI_closed (prD_rows p)
  cmp := fun p q _ _ => by simp only [prD, toPy, comp]; exact rowI_comp (prD_rows p) (prD_rows q)
/-- the rows of a product, one by one -/
theorem expand (p : List Int) (h : p.Pairwise (· ≤ ·)) : (usort p).flatMap (fun r => List.replicate (p.count r) r) = p := by
  refine sorted_eq ?_ h (List.perm_iff_count.mpr fun x => ?_)
  · have : ∀ (l : List Int) (f : Int → Nat), l.Pairwise (· < ·) → (l.flatMap fun r => List.replicate (f r) r).Pairwise (· ≤ ·) := by
      intro l f
      induction l with
      | nil => intro _; exact .nil
      | cons r l ih =>
        intro h
        rw [List.pairwise_cons] at h
        rw [List.flatMap_cons, List.pairwise_append]
        refine ⟨List.pairwise_replicate.mpr (.inr (Int.le_refl _)), ih h.2, fun a ha b hb => ?_⟩
        have e := List.eq_of_mem_replicate ha
        obtain ⟨y, hy, hb⟩ := List.mem_flatMap.mp hb
        have e2 := List.eq_of_mem_replicate hb
        have := h.1 y hy
        omega
    exact this _ _ (usort_asc p)
  · have : ∀ (l : List Int) (f : Int → Nat), l.Nodup → (l.flatMap fun r => List.replicate (f r) r).count x = if x ∈ l then f x else 0 := by
      intro l f
      induction l with
      | nil => intro _; rfl
      | cons r l ih =>
        intro h
        rw [List.nodup_cons] at h
        rw [List.flatMap_cons, List.count_append, ih h.2, List.count_replicate]
        by_cases e : r = x
        · subst e
          simp [h.1]
        · have e' : ¬ x = r := fun z => e z.symm
          have e2 : (r == x) = false := by simpa using e
          simp [e', e2]
    rw [this _ _ (usort_nodup p)]
    by_cases h2 : x ∈ p
    · rw [if_pos (usort_mem.mpr h2)]
    · rw [if_neg (fun z => h2 (usort_mem.mp z)), List.count_eq_zero_of_not_mem h2]
end K39
end Mn
set_option Elab.async false
set_option linter.all false
set_option maxRecDepth 100000
set_option maxHeartbeats 1000000
namespace Mn
namespace K39
open PySem
/-- a sum as the program writes it -/
def shD (A : Tm) : D := .tup (sortD ((kvK prD A).map pairD))
theorem gd_ok {A : Tm} (h : Gd A) : ∀ q ∈ keysT A, q.Pairwise (· ≤ ·) := fun q hq => by
  obtain ⟨t, ht, rfl⟩ := List.mem_map.mp hq
  exact h.srt t ht
theorem sh_perm {A B : Tm} (h : Gd A) (p : A.Perm B) : shD A = shD B := by
  unfold shD
  rw [kvK_perm kfP (gd_ok h) h.nd p]
theorem Gd.perm {A B : Tm} (h : Gd A) (p : A.Perm B) : Gd B := ⟨(show (keysT A).Perm (keysT B) from p.map _).nodup_iff.mp h.nd, fun t ht => h.srt t (p.mem_iff.mpr ht), fun t ht => h.pos t (p.mem_iff.mpr ht)⟩
/-- the items of a sum -/
theorem sh_items {A : Tm} (h : Gd A) : ∃ A' : Tm, A'.Perm A ∧ shD A = .tup ((kvK prD A').map pairD) ∧ ((keysT A').map prD).Pairwise (fun a b => ltD a b = true) := by
  obtain ⟨_, A', h1, h2, h3⟩ := kvK_sorted kfP (gd_ok h) h.nd
  exact ⟨A', h1, by unfold shD; rw [h2], h3⟩
theorem asc_len {l : List Int} {a b : Int} (h : l.Pairwise (· < ·)) (hr : ∀ r ∈ l, a ≤ r ∧ r < b) : (l.length : Int) ≤ max 0 (b - a) := by
  induction l generalizing a with
  | nil => simp; omega
  | cons x l ih =>
    rw [List.pairwise_cons] at h
    have hx := hr x (by simp)
    have := ih (a := x + 1) h.2 fun r hr' => ⟨by have := h.1 r hr'; omega, (hr r (by simp [hr'])).2⟩
    simp only [List.length_cons]
    omega
/-- rows from 0 to 39 -/
def Rw (A : Tm) : Prop := ∀ t ∈ A, ∀ r ∈ t.1, 0 ≤ r ∧ r < 40
theorem usort_small {p : List Int} (h : ∀ r ∈ p, 0 ≤ r ∧ r < 40) : (usort p).length ≤ 40 := by
  have := asc_len (usort_asc p) (a := 0) (b := 40) fun r hr => h r (usort_mem.mp hr)
  omega
theorem sh_sum {A : Tm} (h : Gd A) (hr : Rw A) (hl : A.length ≤ 2000) : ∃ ps, shD A = .tup ps ∧ ps.all prodI = true ∧ ps.length ≤ 2000 ∧ sumB 40 ps = true := by
  obtain ⟨A', h1, h2, h3⟩ := sh_items h
  have hl' : A'.length ≤ 2000 := by rw [h1.length_eq]; exact hl
  have hm : ∀ d ∈ (kvK prD A').map pairD, ∃ p c, d = .tup [.tup ((kvK K1 (cntT p)).map pairD), .int c] ∧ 1 ≤ c ∧ ∀ r ∈ p, 0 ≤ r ∧ r < 40 := fun d hd => by
    obtain ⟨q, hq, rfl⟩ := List.mem_map.mp hd
    obtain ⟨t, ht, rfl⟩ := List.mem_map.mp hq
    have ht' := h1.mem_iff.mp ht
    exact ⟨t.1, t.2, rfl, h.pos t ht', hr t ht'⟩
  refine ⟨_, h2, List.all_eq_true.mpr fun d hd => ?_, by simp [kvK_len, hl'], ?_⟩
  · obtain ⟨p, c, rfl, _, hp⟩ := hm d hd
    have h40 := usort_small hp
    have hp2 := prD_rows p
    simp only [prodI, hp2, Bool.true_and, decide_eq_true_eq]
    simp [kvK_len, cntT]
    omega
  · have hf : ((kvK prD A').map pairD).map fstD = (keysT A').map prD := by
      simp only [kvK, keysT, List.map_map]
      exact List.map_congr_left fun t _ => rfl
    simp only [sumB, Bool.and_eq_true, decide_eq_true_eq]
    refine ⟨⟨⟨List.all_eq_true.mpr fun d hd => ?_, by simp [kvK_len, hl']⟩, List.all_eq_true.mpr fun d hd => ?_⟩, by rw [hf]; exact pairwise_ascD h3⟩
    · obtain ⟨p, c, rfl, hc, _⟩ := hm d hd
      simp [cntB, hc]
    · obtain ⟨p, c, rfl, _, hp⟩ := hm d hd
      have hr2 : ∀ d ∈ (kvK K1 (cntT p)).map pairD, ∃ r ∈ p, d = .tup [.int r, .int (p.count r : Int)] := fun d hd => by
        simp only [kvK, cntT, List.map_map, List.mem_map, Function.comp_apply, usort_mem] at hd
        obtain ⟨r, hr, rfl⟩ := hd
        exact ⟨r, hr, rfl⟩
      simp only [prodOk, Bool.and_eq_true]
      refine ⟨⟨List.all_eq_true.mpr fun d hd => ?_, List.all_eq_true.mpr fun d hd => ?_⟩, ?_⟩
      · obtain ⟨r, hr, rfl⟩ := hr2 d hd
        have := List.count_pos_iff.mpr hr
        simp only [cntB, decide_eq_true_eq]
        omega
      · obtain ⟨r, hr, rfl⟩ := hr2 d hd
        have := hp r hr
        simp only [rowOk, Bool.and_eq_true, decide_eq_true_eq]
        omega
      · refine pairwise_ascD ?_
        simp only [kvK, cntT, List.map_map]
        rw [List.pairwise_map]
        refine (usort_asc p).imp fun {a b} hab => ?_
        simp only [Function.comp_apply, pairD, fstD, K1, ltD_int]
        exact decide_eq_true hab
theorem s3sh (n : Nat) (A : Tm) (m : Mem) (h : Gd A) (hr : Rw A) (hl : A.length ≤ 2000) : run ds (n + 2) 3 [shD A, .int 40] m = .ok (.bl true) m := by
  obtain ⟨ps, e, h1, h2, h3⟩ := sh_sum h hr hl
  rw [e]
  have := s3 n 40 ps m (by omega) h1 (by omega)
  rw [h3] at this
  exact this
theorem s4 (n : Nat) (A : Tm) (m : Mem) (h : Gd A) (hr : Rw A) (hl : A.length ≤ 2000) : run ds (n + 3) 4 [shD A] m = .ok .non m := by
  have h3 := s3sh n A m h hr hl
  simp [r4, d4, h3, truth]
theorem sortItems_big {l : Nat} {kvs : List (D × D)} {lk : Bool} {m : Mem} (h : m[l]? = some (.dict kvs lk)) (hs : sortable (kvs.map pairD) = true) (hl : kvs.length ≤ 1000000) : bSortItems [.loc l] m = some (.loc m.length, m ++ [.lst (sortD (kvs.map pairD))]) := by
  have z := sizeLine_is
  simp only [bSortItems, h, hs, true_and]
  rw [if_pos (by omega)]
theorem itemsF_ev {i l : Nat} {fe : FE} {ρ : Env} {kvs : List (D × D)} {lk : Bool} {m : Mem} (hi : ρ[i]? = some (some (.loc l))) (h : m[l]? = some (.dict kvs lk)) (hs : sortable (kvs.map pairD) = true) (hl : kvs.length ≤ 1000000) : xItemsF bSortItems (xVar i) fe ρ m = .ok (.loc m.length) (m ++ [.lst (sortD (kvs.map pairD))]) := by
  unfold xItemsF
  simp only [xVar_ev, hi, Out.bind_ok, h, sortItems_big h hs hl, Out.ofO_some]
theorem s5 (n L : Nat) (A : Tm) (M : Mem) (h : Gd A) (hM : M[L]? = some (.dict (kvK prD A) false)) (hl : A.length ≤ 1000000) : run ds (n + 1) 5 [.loc L] M = if A.length ≤ 2000 then .ok (shD A) M else .exc 2 none M := by
  by_cases c : A.length ≤ 2000
  · have c1 : ¬ (2000 : Int) < A.length := by omega
    have hs := fun fe => itemsF_ev (i := 0) (fe := fe) (ρ := [some (.loc L)]) rfl hM (kvK_sortable kfP (gd_ok h)) (by rw [kvK_len]; omega)
    have hc := fun k => kvK_items_closed (A := A) (n := k) kfP (gd_ok h)
    simp [r5, d5, bLen, hM, kvK_len, opGt, c1, hs, hc, c, shD]
  · have c1 : (2000 : Int) < A.length := by omega
    simp [r5, d5, bLen, hM, kvK_len, opGt, c1, c]
end K39
end Mn
set_option Elab.async false
set_option linter.all false
set_option maxRecDepth 100000
set_option maxHeartbeats 1000000
namespace Mn
namespace K39
open PySem
/-- a loop that adds up: one term each turn -/
theorem forGo_acc {α : Type} {b : Env → Mem → OutS} {p : Pat} {w : Watch} (f : α → D) (g : α → List Int × Int) (I : Env → Prop) (Mf : Tm → Mem) (hw : ∀ A, watchOk w (Mf A) = true) : ∀ (ts : List α) (A : Tm) (ρ : Env), I ρ →
    (∀ pre t post, ts = pre ++ t :: post → ∀ ρ, I ρ → ∃ ρ1 ρ2, bindP p (f t) ρ = some ρ1 ∧ b ρ1 (Mf (acc (pre.map g) A)) = .next ρ2 (Mf (addT (acc (pre.map g) A) (g t))) ∧ I ρ2) →
    ∃ ρ', forGo b p w (ts.map f) ρ (Mf A) = .next ρ' (Mf (acc (ts.map g) A)) ∧ I ρ'
  | [], A, ρ, i, _ => ⟨ρ, by simp [forGo, hw, acc], i⟩
  | t :: ts, A, ρ, i, h => by
    obtain ⟨ρ1, ρ2, h1, h2, i2⟩ := h [] t ts rfl ρ i
    obtain ⟨ρ', h3, i3⟩ := forGo_acc f g I Mf hw ts (addT A (g t)) ρ2 i2 fun pre u post e ρ iρ => by
      have := h (t :: pre) u post (by rw [e]; rfl) ρ iρ
      exact this
    refine ⟨ρ', ?_, i3⟩
    have h2' : b ρ1 (Mf A) = .next ρ2 (Mf (addT A (g t))) := h2
    simp only [List.map_cons, forGo, hw, if_true, h1, h2']
    exact h3
/-- a loop that adds up several terms each turn, and looks how many there are -/
theorem forGo_accX {α : Type} {b : Env → Mem → OutS} {p : Pat} {w : Watch} (f : α → D) (G : α → Tm) (I : Env → Prop) (Mf : Tm → Mem) (hw : ∀ A, watchOk w (Mf A) = true) : ∀ (ts : List α) (A : Tm) (ρ : Env), I ρ → A.length ≤ 2000 →
    (∀ pre t post, ts = pre ++ t :: post → (acc (pre.flatMap G) A).length ≤ 2000 → ∀ ρ, I ρ → ∃ ρ1 ρ2, bindP p (f t) ρ = some ρ1 ∧ I ρ2 ∧ b ρ1 (Mf (acc (pre.flatMap G) A)) = if (acc (G t) (acc (pre.flatMap G) A)).length ≤ 2000 then .next ρ2 (Mf (acc (G t) (acc (pre.flatMap G) A))) else .exc 2 none ρ2 (Mf (acc (G t) (acc (pre.flatMap G) A)))) →
    ((acc (ts.flatMap G) A).length ≤ 2000 → ∃ ρ', forGo b p w (ts.map f) ρ (Mf A) = .next ρ' (Mf (acc (ts.flatMap G) A)) ∧ I ρ') ∧
    (¬ (acc (ts.flatMap G) A).length ≤ 2000 → ∃ ρ' A', forGo b p w (ts.map f) ρ (Mf A) = .exc 2 none ρ' (Mf A'))
  | [], A, ρ, i, hA, _ => ⟨fun _ => ⟨ρ, by simp [forGo, hw, acc], i⟩, fun c => absurd hA (by simpa [acc] using c)⟩
  | t :: ts, A, ρ, i, hA, h => by
    obtain ⟨ρ1, ρ2, h1, i2, h2⟩ := h [] t ts rfl (by simpa [acc] using hA) ρ i
    have h2' : b ρ1 (Mf A) = if (acc (G t) A).length ≤ 2000 then .next ρ2 (Mf (acc (G t) A)) else .exc 2 none ρ2 (Mf (acc (G t) A)) := h2
    have ea : acc ((t :: ts).flatMap G) A = acc (ts.flatMap G) (acc (G t) A) := by rw [List.flatMap_cons, acc_app]
    by_cases c : (acc (G t) A).length ≤ 2000
    · rw [if_pos c] at h2'
      obtain ⟨g1, g2⟩ := forGo_accX f G I Mf hw ts (acc (G t) A) ρ2 i2 c fun pre u post e hp ρ iρ => by
        have := h (t :: pre) u post (by rw [e]; rfl) (by rw [List.flatMap_cons, acc_app]; exact hp) ρ iρ
        rw [List.flatMap_cons, acc_app] at this
        exact this
      rw [ea]
      constructor
      · intro q
        obtain ⟨ρ', h3, i3⟩ := g1 q
        exact ⟨ρ', by simp only [List.map_cons, forGo, hw, if_true, h1, h2']; exact h3, i3⟩
      · intro q
        obtain ⟨ρ', A', h3⟩ := g2 q
        exact ⟨ρ', A', by simp only [List.map_cons, forGo, hw, if_true, h1, h2']; exact h3⟩
    · rw [if_neg c] at h2'
      rw [ea]
      refine ⟨fun q => absurd (Nat.le_trans (acc_mono _ _) q) c, fun _ => ⟨ρ2, _, by simp only [List.map_cons, forGo, hw, if_true, h1, h2']; rfl⟩⟩
theorem pairsD_map : ∀ (qs : List (D × D)), pairsD (qs.map pairD) = some qs
  | [] => rfl
  | (k, v) :: qs => by simp only [List.map_cons, pairD, pairsD, pairsD_map qs, Option.map_some]
theorem dictP_kvK {K : List Int → D} {Ok : List Int → Prop} (hk : KeyF K Ok) : ∀ (ts A : Tm), (∀ q ∈ keysT (A ++ ts), Ok q) → (keysT (A ++ ts)).Nodup → (A ++ ts).length ≤ 1000000 → dictP (kvK K A) (kvK K ts) = some (kvK K (A ++ ts))
  | [], A, _, _, _ => by simp [kvK, dictP]
  | t :: ts, A, ho, nd, hl => by
    have z := sizeLine_is
    have hA : ∀ q ∈ keysT A, Ok q := fun q hq => ho q (by simp only [keysT, List.map_append, List.mem_append] at hq ⊢; exact .inl hq)
    have ht : Ok t.1 := ho _ (by simp [keysT])
    have hn : t.1 ∉ keysT A := fun h => by
      simp only [keysT, List.map_append, List.map_cons] at nd
      exact (List.nodup_append.mp nd).2.2 _ h _ (by simp) rfl
    have ndA : (keysT A).Nodup := by
      simp only [keysT, List.map_append] at nd
      exact (List.nodup_append.mp nd).1
    have e : dPut (kvK K A) (K t.1) (.int t.2) = kvK K (A ++ [t]) := by
      rw [kvK_put hk hA ndA ht, put_new hn]
    have el : (A ++ t :: ts) = (A ++ [t]) ++ ts := by simp
    have hl2 : A.length + 1 ≤ 1000000 := by simp at hl; omega
    have step : dictP (kvK K A) (kvK K (t :: ts)) = if kindOk (kvK K A) (K t.1) = true ∧ (dPut (kvK K A) (K t.1) (.int t.2)).length ≤ sizeLine then dictP (dPut (kvK K A) (K t.1) (.int t.2)) (kvK K ts) else none := rfl
    rw [step, if_pos ⟨kvK_kind hk hA ht, by rw [e, kvK_len]; simp; omega⟩, e, el]
    exact dictP_kvK hk ts (A ++ [t]) (by rw [← el]; exact ho) (by rw [← el]; exact nd) (by rw [← el]; exact hl)
def b6b : DenS := sSub (xVar 2) (xGc (xVar 3)) (xGc (xBin opAdd (xMeth [("dict", fGet)] (xVar 2) (aCons (xVar 3) (aCons (xLit (.int 0)) (aNil)))) (xVar 4)))
theorem acc_ok {Ok : List Int → Prop} {ts A : Tm} (h1 : ∀ q ∈ keysT A, Ok q) (h2 : ∀ q ∈ keysT ts, Ok q) : ∀ q ∈ keysT (acc ts A), Ok q := fun q hq => by
  rcases acc_mem.mp hq with h | h
  · exact h1 q h
  · exact h2 q h
theorem s6 (n : Nat) (p q : List Int) (m : Mem) (hp : p.length ≤ 1000) (hq : q.length ≤ 1000) : run ds (n + 1) 6 [prD p, prD q] m = .ok (prD (mg p q)) m := by
  have z := sizeLine_is
  have lp : (cntT p).length ≤ 1000 := by
    have := usort_len p
    simp [cntT]; omega
  have lq : (cntT q).length ≤ 1000 := by
    have := usort_len q
    simp [cntT]; omega
  have hd : bDictP [prD p] m = some (.loc m.length, m ++ [.dict (kvK K1 (cntT p)) false]) := by
    have e := dictP_kvK kf1 (cntT p) [] (by simpa using cnt_ok p) (by simpa using cnt_nd p) (by simp; omega)
    simp only [List.nil_append] at e
    have e0 : kvK K1 [] = [] := rfl
    rw [e0] at e
    simp only [bDictP, prD, itemsM, pairsD_map, e, kvK_len]
    rw [if_pos ⟨by omega, by omega⟩]
  obtain ⟨ρ', h1, o3, o4, rfl⟩ := forGo_acc (b := b6b (run ds n)) (p := .tp [.nm 3, .nm 4]) (w := []) (fun t => pairD (K1 t.1, D.int t.2)) (fun t => t) (fun ρ => ∃ o3 o4, ρ = [some (prD p), some (prD q), some (.loc m.length), o3, o4]) (fun A => m ++ [.dict (kvK K1 A) false]) (fun _ => rfl) (cntT q) (cntT p) [some (prD p), some (prD q), some (.loc m.length), none, none] ⟨none, none, rfl⟩ (by
    rintro pre t post e ρ ⟨o3, o4, rfl⟩
    rw [List.map_id']
    have htq : t.1 ∈ keysT (cntT q) := by rw [e]; simp [keysT]
    have hpre : ∀ k ∈ keysT pre, Ok1 k := fun k hk => cnt_ok q k (by rw [e]; simp only [keysT, List.map_append, List.mem_append] at hk ⊢; exact .inl hk)
    have hok := acc_ok (cnt_ok p) hpre
    have hnd := acc_nodup (ts := pre) (cnt_nd p)
    have hlen := acc_len pre (cntT p)
    have hpl : pre.length ≤ 1000 := by
      have := congrArg List.length e
      simp at this
      omega
    obtain ⟨r, er⟩ := cnt_ok q _ htq
    have hk1 : Ok1 t.1 := ⟨r, er⟩
    have hM : (m ++ [O.dict (kvK K1 (acc pre (cntT p))) false])[m.length]? = some (.dict (kvK K1 (acc pre (cntT p))) false) := by simp
    have g1 := upd_get kf1 hok hk1 hM
    have g2 := upd_set kf1 (c := t.2) hok hnd hk1 hM (by omega)
    have g3 : (m ++ [O.dict (kvK K1 (acc pre (cntT p))) false]).set m.length (.dict (kvK K1 (addT (acc pre (cntT p)) (t.1, t.2))) false) = m ++ [O.dict (kvK K1 (addT (acc pre (cntT p)) t)) false] := by simp
    rw [g3] at g2
    generalize acc pre (cntT p) = A at *
    have hK : K1 t.1 = .int r := by rw [er]; rfl
    rw [hK] at g1 g2
    refine ⟨_, [some (prD p), some (prD q), some (.loc m.length), some (.int r), some (.int t.2)], by rw [hK]; rfl, ?_, _, _, rfl⟩
    have hM2 : tyD (m ++ [O.dict (kvK K1 A) false]) (.loc m.length) = "dict" := by simp [tyD]
    simp [b6b, sSub, hM2, List.lookup, g1, opAdd, g2])
  rw [List.map_id'] at h1
  have hf : sFor (iAny (xVar 1)) (.tp [.nm 3, .nm 4]) b6b (run ds n) [some (prD p), some (prD q), some (.loc m.length), none, none] (m ++ [.dict (kvK K1 (cntT p)) false]) = .next [some (prD p), some (prD q), some (.loc m.length), o3, o4] (m ++ [.dict (kvK K1 (acc (cntT q) (cntT p))) false]) := by
    unfold sFor
    have : iAny (xVar 1) (run ds n) [some (prD p), some (prD q), some (.loc m.length), none, none] (m ++ [.dict (kvK K1 (cntT p)) false]) = .ok ⟨(cntT q).map fun t => pairD (K1 t.1, D.int t.2), [], none⟩ (m ++ [.dict (kvK K1 (cntT p)) false]) := by
      simp [prD, kvK]
    rw [this]
    simp only [ofE_ok, lockM, h1, unlockS, unlockM]
  have ed : d6 = sSeq (sSet 2 (xGc (xCallF bDictP (aCons (xVar 0) (aNil))))) (sSeq (sFor (iAny (xVar 1)) (.tp [.nm 3, .nm 4]) b6b) (sRet (xGc (xCallF bTuple (aCons (xItemsF bSortItems (xVar 2)) (aNil)))))) := rfl
  have hok := acc_ok (cnt_ok p) (cnt_ok q)
  have hlen := acc_len (cntT q) (cntT p)
  have hit := fun fe => itemsF_ev (i := 2) (fe := fe) (ρ := [some (prD p), some (prD q), some (.loc m.length), o3, o4]) (m := m ++ [.dict (kvK K1 (acc (cntT q) (cntT p))) false]) (l := m.length) (lk := false) rfl (by simp) (kvK_sortable kf1 hok) (by rw [kvK_len]; omega)
  simp only [items_cnt (acc_cnt p q)] at hit
  have hcl := fun k => kfP.clo k (mg p q) (mg_sorted p q)
  have e2 : prD (mg p q) = .tup ((kvK K1 (cntT (mg p q))).map pairD) := rfl
  have g0 : gcO m (.ok (.loc m.length) (m ++ [.dict (kvK K1 (cntT p)) false])) = .ok (.loc m.length) (m ++ [.dict (kvK K1 (cntT p)) false]) := by simp [gcO, closed]
  have g1 : gcO (m ++ [.dict (kvK K1 (acc (cntT q) (cntT p))) false]) (.ok (prD (mg p q)) (m ++ [.dict (kvK K1 (acc (cntT q) (cntT p))) false] ++ [.lst ((kvK K1 (cntT (mg p q))).map pairD)])) = .ok (prD (mg p q)) (m ++ [.dict (kvK K1 (acc (cntT q) (cntT p))) false]) := gcO_app _ (hcl _)
  have g2 : gcO m (.ok (prD (mg p q)) (m ++ [.dict (kvK K1 (acc (cntT q) (cntT p))) false])) = .ok (prD (mg p q)) m := gcO_app _ (hcl _)
  have hbt := bTuple_end (m := m ++ [.dict (kvK K1 (acc (cntT q) (cntT p))) false]) (xs := (kvK K1 (cntT (mg p q))).map pairD)
  rw [← e2] at hbt
  have h2 : xGc (xCallF bTuple (aCons (xItemsF bSortItems (xVar 2)) (aNil))) (run ds n) [some (prD p), some (prD q), some (.loc m.length), o3, o4] (m ++ [.dict (kvK K1 (acc (cntT q) (cntT p))) false]) = .ok (prD (mg p q)) (m ++ [.dict (kvK K1 (acc (cntT q) (cntT p))) false]) := by
    simp only [xGc_ev, xCallF_ev, aCons_ev, hit, Out.bind_ok, aNil_ev, hbt, Out.ofO_some, g1]
  rw [r6, ed]
  show gcO m (bodyD 2 5 _ (run ds n) [prD p, prD q] m) = _
  rw [bodyD_ev (by rfl)]
  have h3 : sSet 2 (xGc (xCallF bDictP (aCons (xVar 0) (aNil)))) (run ds n) (List.map some [prD p, prD q] ++ List.replicate (5 - 2) none) m = .next [some (prD p), some (prD q), some (.loc m.length), none, none] (m ++ [.dict (kvK K1 (cntT p)) false]) := by
    simp [hd, g0, List.replicate]
  have h4 := seq_step h3 (seq_step hf (show sRet (xGc (xCallF bTuple (aCons (xItemsF bSortItems (xVar 2)) (aNil)))) (run ds n) [some (prD p), some (prD q), some (.loc m.length), o3, o4] (m ++ [.dict (kvK K1 (acc (cntT q) (cntT p))) false]) = .ret (prD (mg p q)) (m ++ [.dict (kvK K1 (acc (cntT q) (cntT p))) false]) by
    simp only [sRet_ev, h2, ofE_ok]))
  rw [h4]
  exact g2
end K39
end Mn
set_option Elab.async false
set_option linter.all false
set_option maxRecDepth 100000
set_option maxHeartbeats 1000000
namespace Mn
namespace K39
open PySem
/-- a sum within the limits -/
structure VS (A : Tm) : Prop where
  gd : Gd A
  rw_ : Rw A
  len : A.length ≤ 2000
  sz : ∀ t ∈ A, t.1.length ≤ 500
def fP (t : List Int × Int) : D := pairD (prD t.1, .int t.2)
def b7i : DenS := sSeq (sSet 7 (xGc (xCall 6 (aCons (xVar 3) (aCons (xVar 5) (aNil)))))) (sSub (xVar 2) (xGc (xVar 7)) (xGc (xBin opAdd (xMeth [("dict", fGet)] (xVar 2) (aCons (xVar 7) (aCons (xLit (.int 0)) (aNil)))) (xBin opMul (xVar 4) (xVar 6)))))
def b7o : DenS := sSeq (sFor (iAny (xVar 1)) (.tp [.nm 5, .nm 6]) b7i) (sIf (tGc (tB (xBin opGt (xCallF bLen (aCons (xVar 2) (aNil))) (xLit (.int 2000))))) (sRaise0 2) (sNil))
/-- the terms of one product with a sum -/
def rowT (t : List Int × Int) (B : Tm) : Tm := B.map fun u => (mg t.1 u.1, t.2 * u.2)
theorem in7 (n : Nat) (t : List Int × Int) (B F : Tm) (o0 o5 o6 o7 : Option D) (m : Mem) (ht : t.1.length ≤ 500) (hB : ∀ u ∈ B, u.1.length ≤ 500 ∧ 1 ≤ u.2 ∧ u.2 < 2 ^ 64) (hF : ∀ q ∈ keysT F, q.Pairwise (· ≤ ·)) (nd : (keysT F).Nodup) (hl : F.length + B.length ≤ 100000) :
    ∃ o5' o6' o7', sFor (iAny (xVar 1)) (.tp [.nm 5, .nm 6]) b7i (run ds (n + 1)) [o0, some (.tup (B.map fP)), some (.loc m.length), some (prD t.1), some (.int t.2), o5, o6, o7] (m ++ [.dict (kvK prD F) false]) = .next [o0, some (.tup (B.map fP)), some (.loc m.length), some (prD t.1), some (.int t.2), o5', o6', o7'] (m ++ [.dict (kvK prD (acc (rowT t B) F)) false]) := by
  obtain ⟨ρ', h1, o5', o6', o7', rfl⟩ := forGo_acc (b := b7i (run ds (n + 1))) (p := .tp [.nm 5, .nm 6]) (w := []) fP (fun u => (mg t.1 u.1, t.2 * u.2)) (fun ρ => ∃ o5 o6 o7, ρ = [o0, some (.tup (B.map fP)), some (.loc m.length), some (prD t.1), some (.int t.2), o5, o6, o7]) (fun A => m ++ [.dict (kvK prD A) false]) (fun _ => rfl) B F [o0, some (.tup (B.map fP)), some (.loc m.length), some (prD t.1), some (.int t.2), o5, o6, o7] ⟨o5, o6, o7, rfl⟩ (by
    rintro pre u post e ρ ⟨o5, o6, o7, rfl⟩
    have hu := hB u (by rw [e]; simp)
    have hpl : pre.length ≤ B.length := by rw [e]; simp
    have hok : ∀ q ∈ keysT (acc (pre.map fun u => (mg t.1 u.1, t.2 * u.2)) F), q.Pairwise (· ≤ ·) := acc_ok hF fun q hq => by
      obtain ⟨v, hv, rfl⟩ := List.mem_map.mp hq
      obtain ⟨w, hw, rfl⟩ := List.mem_map.mp hv
      exact mg_sorted _ _
    have hnd := acc_nodup (ts := pre.map fun u => (mg t.1 u.1, t.2 * u.2)) nd
    have hlen := acc_len (pre.map fun u => (mg t.1 u.1, t.2 * u.2)) F
    rw [List.length_map] at hlen
    generalize acc (pre.map fun u => (mg t.1 u.1, t.2 * u.2)) F = A at *
    have hM : (m ++ [O.dict (kvK prD A) false])[m.length]? = some (.dict (kvK prD A) false) := by simp
    have g1 := upd_get kfP hok (mg_sorted t.1 u.1) hM
    have g2 := upd_set kfP (c := t.2 * u.2) hok hnd (mg_sorted t.1 u.1) hM (by omega)
    have g3 : (m ++ [O.dict (kvK prD A) false]).set m.length (.dict (kvK prD (addT A (mg t.1 u.1, t.2 * u.2))) false) = m ++ [O.dict (kvK prD (addT A (mg t.1 u.1, t.2 * u.2))) false] := by simp
    rw [g3] at g2
    have h6 := s6 n t.1 u.1 (m ++ [O.dict (kvK prD A) false]) (by omega) (by omega)
    have hb : (-18446744073709551616 < t.2 ∧ t.2 < 18446744073709551616) ∨ (-18446744073709551616 < u.2 ∧ u.2 < 18446744073709551616) := .inr (by omega)
    have hM2 : tyD (m ++ [O.dict (kvK prD A) false]) (.loc m.length) = "dict" := by simp [tyD]
    generalize hX : prD (mg t.1 u.1) = X at *
    refine ⟨_, [o0, some (.tup (B.map fP)), some (.loc m.length), some (prD t.1), some (.int t.2), some (prD u.1), some (.int u.2), some X], rfl, ?_, _, _, _, rfl⟩
    simp [b7i, sSub, h6, hM2, List.lookup, g1, opAdd, opMul, hb, g2])
  refine ⟨o5', o6', o7', ?_⟩
  unfold sFor
  have : iAny (xVar 1) (run ds (n + 1)) [o0, some (.tup (B.map fP)), some (.loc m.length), some (prD t.1), some (.int t.2), o5, o6, o7] (m ++ [.dict (kvK prD F) false]) = .ok ⟨B.map fP, [], none⟩ (m ++ [.dict (kvK prD F) false]) := by simp
  rw [this]
  simp only [ofE_ok, lockM, h1, unlockS, unlockM]
  rfl
theorem s7 (n : Nat) (A B : Tm) (m : Mem) (va : VS A) (vb : VS B) (hb : ∀ t ∈ B, t.2 < 2 ^ 64) : run ds (n + 4) 7 [shD A, shD B] m = if (mulT A B).length ≤ 2000 then .ok (shD (mulT A B)) m else .exc 2 none m := by
  obtain ⟨A', pa, ea, _⟩ := sh_items va.gd
  obtain ⟨B', pb, eb, _⟩ := sh_items vb.gd
  have h4a := fun m => s4 n A m va.gd va.rw_ va.len
  have h4b := fun m => s4 n B m vb.gd vb.rw_ vb.len
  have eA : shD A = .tup (A'.map fP) := by rw [ea]; simp [kvK, fP]
  have eB : shD B = .tup (B'.map fP) := by rw [eb]; simp [kvK, fP]
  have hmp := mul_perm pa pb
  have hgm : Gd (mulT A' B') := mul_good (fun t ht => va.gd.pos t (pa.mem_iff.mp ht)) fun t ht => vb.gd.pos t (pb.mem_iff.mp ht)
  rw [← sh_perm hgm hmp, ← hmp.length_eq]
  have hB' : ∀ u ∈ B', u.1.length ≤ 500 ∧ 1 ≤ u.2 ∧ u.2 < 2 ^ 64 := fun u hu => ⟨vb.sz u (pb.mem_iff.mp hu), vb.gd.pos u (pb.mem_iff.mp hu), hb u (pb.mem_iff.mp hu)⟩
  have hBl : B'.length ≤ 2000 := by rw [pb.length_eq]; exact vb.len
  rw [eA] at h4a ⊢
  rw [eB] at h4b ⊢
  have eP : A'.flatMap (fun t => rowT t B') = pairsT A' B' := rfl
  obtain ⟨l1, l2⟩ := forGo_accX (b := b7o (run ds (n + 3))) (p := .tp [.nm 3, .nm 4]) (w := []) fP (fun t => rowT t B') (fun ρ => ∃ o3 o4 o5 o6 o7, ρ = [some (.tup (A'.map fP)), some (.tup (B'.map fP)), some (.loc m.length), o3, o4, o5, o6, o7]) (fun F => m ++ [.dict (kvK prD F) false]) (fun _ => rfl) A' [] [some (.tup (A'.map fP)), some (.tup (B'.map fP)), some (.loc m.length), none, none, none, none, none] ⟨none, none, none, none, none, rfl⟩ (by simp) (by
    rintro pre t post e hle ρ ⟨o3, o4, o5, o6, o7, rfl⟩
    have ht : t.1.length ≤ 500 := va.sz t (pa.mem_iff.mp (by rw [e]; simp))
    have hok : ∀ q ∈ keysT (acc (pre.flatMap fun t => rowT t B') []), q.Pairwise (· ≤ ·) := acc_ok (by simp [keysT]) fun q hq => by
      obtain ⟨v, hv, rfl⟩ := List.mem_map.mp hq
      obtain ⟨x, _, hx⟩ := List.mem_flatMap.mp hv
      obtain ⟨w, hw, rfl⟩ := List.mem_map.mp hx
      exact mg_sorted _ _
    have hnd : (keysT (acc (pre.flatMap fun t => rowT t B') [])).Nodup := acc_nodup (by simp [keysT])
    generalize acc (pre.flatMap fun t => rowT t B') [] = F at *
    obtain ⟨o5', o6', o7', hin⟩ := in7 (n + 2) t B' F (some (.tup (A'.map fP))) o5 o6 o7 m ht hB' hok hnd (by omega)
    refine ⟨_, [some (.tup (A'.map fP)), some (.tup (B'.map fP)), some (.loc m.length), some (prD t.1), some (.int t.2), o5', o6', o7'], rfl, ⟨_, _, _, _, _, rfl⟩, ?_⟩
    have hset : (([some (D.tup (A'.map fP)), some (D.tup (B'.map fP)), some (D.loc m.length), o3, o4, o5, o6, o7] : Env).set 3 (some (prD t.1))).set 4 (some (.int t.2)) = [some (D.tup (A'.map fP)), some (D.tup (B'.map fP)), some (D.loc m.length), some (prD t.1), some (.int t.2), o5, o6, o7] := rfl
    by_cases c : (acc (rowT t B') F).length ≤ 2000
    · have c1 : ¬ (2000 : Int) < (acc (rowT t B') F).length := by omega
      rw [if_pos c]
      simp only [b7o, sSeq_ev, bindP, bindPs]
      simp [hin, bLen, kvK_len, opGt, c1]
    · have c1 : (2000 : Int) < (acc (rowT t B') F).length := by omega
      rw [if_neg c]
      simp only [b7o, sSeq_ev]
      simp [hin, bLen, kvK_len, opGt, c1])
  rw [eP] at l1 l2
  have hm : acc (pairsT A' B') [] = mulT A' B' := rfl
  rw [hm] at l1 l2
  have hfor : ∀ r, forGo (b7o (run ds (n + 3))) (.tp [.nm 3, .nm 4]) [] (A'.map fP) [some (.tup (A'.map fP)), some (.tup (B'.map fP)), some (.loc m.length), none, none, none, none, none] (m ++ [.dict (kvK prD []) false]) = r → (∀ x y, r ≠ .brk x y) → sFor (iAny (xVar 0)) (.tp [.nm 3, .nm 4]) b7o (run ds (n + 3)) [some (.tup (A'.map fP)), some (.tup (B'.map fP)), some (.loc m.length), none, none, none, none, none] (m ++ [.dict [] false]) = r := fun r hr _ => by
    have e0 : kvK prD [] = [] := rfl
    rw [e0] at hr
    unfold sFor
    have : iAny (xVar 0) (run ds (n + 3)) [some (.tup (A'.map fP)), some (.tup (B'.map fP)), some (.loc m.length), none, none, none, none, none] (m ++ [.dict [] false]) = .ok ⟨A'.map fP, [], none⟩ (m ++ [.dict [] false]) := by simp
    rw [this]
    simp only [ofE_ok, lockM, hr]
    cases r <;> rfl
  have ed : d7 = sSeq (sExpr (xGc (xCall 4 (aCons (xVar 0) (aNil))))) (sSeq (sExpr (xGc (xCall 4 (aCons (xVar 1) (aNil))))) (sSeq (sSet 2 (xGc (xEmpty))) (sSeq (sFor (iAny (xVar 0)) (.tp [.nm 3, .nm 4]) b7o) (sRet (xGc (xCall 5 (aCons (xVar 2) (aNil)))))))) := rfl
  have g0 : gcO m (.ok (.loc m.length) (m ++ [.dict [] false])) = .ok (.loc m.length) (m ++ [.dict [] false]) := by simp [gcO, closed]
  rw [r7, ed]
  by_cases c : (mulT A' B').length ≤ 2000
  · obtain ⟨ρ', h1, o3, o4, o5, o6, o7, rfl⟩ := l1 c
    have hf := hfor _ h1 (by simp)
    have h5 := s5 (n + 2) m.length (mulT A' B') (m ++ [.dict (kvK prD (mulT A' B')) false]) hgm (by simp) (by omega)
    rw [if_pos c] at h5
    have hcl := fun k => kvK_items_closed (n := k) kfP (gd_ok hgm)
    have e2 : shD (mulT A' B') = .tup (sortD ((kvK prD (mulT A' B')).map pairD)) := rfl
    rw [if_pos c]
    rw [← e2] at hcl
    generalize shD (mulT A' B') = R at *
    simp [h4a, h4b, xEmpty, g0, hf, h5, hcl]
  · obtain ⟨ρ', F, h1⟩ := l2 c
    have hf := hfor _ h1 (by simp)
    rw [if_neg c]
    simp [h4a, h4b, xEmpty, g0, hf]
end K39
end Mn
set_option Elab.async false
set_option linter.all false
set_option maxRecDepth 100000
set_option maxHeartbeats 1000000
namespace Mn
namespace K39
open PySem
/-- a sum within limits, its products of at most k rows -/
structure Vk (A : Tm) (k : Nat) : Prop where
  gd : Gd A
  rw_ : Rw A
  len : A.length ≤ 2000
  sz : ∀ t ∈ A, t.1.length ≤ k
theorem Vk.vs {A : Tm} {k : Nat} (h : Vk A k) (hk : k ≤ 500) : VS A := ⟨h.gd, h.rw_, h.len, fun t ht => Nat.le_trans (h.sz t ht) hk⟩
theorem acc_keys_of {ts : Tm} {P : List Int → Prop} (h : ∀ t ∈ ts, P t.1) : ∀ t ∈ acc ts [], P t.1 := fun t ht => by
  have hk : t.1 ∈ keysT (acc ts []) := List.mem_map.mpr ⟨t, ht, rfl⟩
  rcases acc_mem.mp hk with hk | hk
  · simp [keysT] at hk
  · obtain ⟨u, hu, e⟩ := List.mem_map.mp hk
    rw [← e]; exact h u hu
theorem Vk.mul {A B : Tm} {k j : Nat} (ha : Vk A k) (hb : Vk B j) (hl : (mulT A B).length ≤ 2000) : Vk (mulT A B) (k + j) := by
  refine ⟨mul_good ha.gd.pos hb.gd.pos, acc_keys_of (P := fun p => ∀ r ∈ p, 0 ≤ r ∧ r < 40) fun t ht => ?_, hl, acc_keys_of (P := fun p => p.length ≤ k + j) fun t ht => ?_⟩
  · obtain ⟨a, h1, h2⟩ := List.mem_flatMap.mp ht
    obtain ⟨b, h3, rfl⟩ := List.mem_map.mp h2
    intro r hr
    rw [mg, (isort_perm _).mem_iff, List.mem_append] at hr
    exact hr.elim (ha.rw_ a h1 r) (hb.rw_ b h3 r)
  · obtain ⟨a, h1, h2⟩ := List.mem_flatMap.mp ht
    obtain ⟨b, h3, rfl⟩ := List.mem_map.mp h2
    rw [mg, isort_len, List.length_append]
    have := ha.sz a h1
    have := hb.sz b h3
    omega
theorem Vk.one : Vk oneT 0 := ⟨one_good, by simp [Rw, oneT], by simp [oneT], by simp [oneT]⟩
/-- the product put in, as long as it is not too far -/
def toldO (S : Int → Tm) : List Int → Tm → Option Tm
  | [], A => some A
  | r :: p, A => if (mulT A (S r)).length ≤ 2000 then toldO S p (mulT A (S r)) else none
theorem toldO_is {S : Int → Tm} : ∀ {p : List Int} {A B : Tm}, toldO S p A = some B → B = toldT S p A
  | [], A, B, h => by simp only [toldO, Option.some.injEq] at h; rw [← h]; rfl
  | r :: p, A, B, h => by
    simp only [toldO] at h
    split at h
    · exact toldO_is (p := p) (A := mulT A (S r)) h
    · cases h
theorem toldO_app (S : Int → Tm) : ∀ (p q : List Int) (A : Tm), toldO S (p ++ q) A = (toldO S p A).bind (toldO S q)
  | [], q, A => rfl
  | r :: p, q, A => by
    simp only [List.cons_append, toldO]
    split
    · exact toldO_app S p q _
    · rfl
/-- what the sums are -/
structure SS (ss : List D) (S : Int → Tm) (r : Int) : Prop where
  at_ : L2.atI ss r = some (shD (S r))
  vk : Vk (S r) 20
  bd : ∀ t ∈ S r, t.2 < 2 ^ 64
theorem toldO_vk {ss : List D} {S : Int → Tm} : ∀ {p : List Int} {A B : Tm} {k : Nat}, (∀ r ∈ p, SS ss S r) → Vk A k → toldO S p A = some B → Vk B (k + 20 * p.length)
  | [], A, B, k, _, h, e => by simp only [toldO, Option.some.injEq] at e; subst e; simpa using h
  | r :: p, A, B, k, hs, h, e => by
    simp only [toldO] at e
    split at e
    · rename_i c
      have := toldO_vk (p := p) (fun x hx => hs x (by simp [hx])) (h.mul (hs r (by simp)).vk c) e
      have e2 : k + 20 + 20 * p.length = k + 20 * (r :: p).length := by simp; omega
      rw [← e2]; exact this
    · cases e
def b8t : DenS := sSet 5 (xGc (xCall 7 (aCons (xVar 5) (aCons (xBin opIx (xVar 1) (xVar 6)) (aNil)))))
def b8r : DenS := sFor (iRange1 (aCons (xVar 7) (aNil))) (.nm 8) b8t
section
variable {ss : List D} {S : Int → Tm} {o0 o2 o3 o4 o6 o7 o8 o9 o10 : Option D} {M : Mem}
theorem rng8 (n : Nat) (r : Int) (hs : SS ss S r) : ∀ (xs : List D) (A : Tm) (k : Nat) (o8 : Option D), Vk A k → k + 20 * xs.length ≤ 500 →
    (∀ B, toldO S (List.replicate xs.length r) A = some B → ∃ o8', forGo (b8t (run ds (n + 4))) (.nm 8) [] xs [o0, some (.tup ss), o2, o3, o4, some (shD A), some (.int r), o7, o8, o9, o10] M = .next [o0, some (.tup ss), o2, o3, o4, some (shD B), some (.int r), o7, o8', o9, o10] M) ∧
    (toldO S (List.replicate xs.length r) A = none → ∃ ρ', forGo (b8t (run ds (n + 4))) (.nm 8) [] xs [o0, some (.tup ss), o2, o3, o4, some (shD A), some (.int r), o7, o8, o9, o10] M = .exc 2 none ρ' M)
  | [], A, k, o8, h, _ => ⟨fun B e => by
      simp only [List.length_nil, List.replicate_zero, toldO, Option.some.injEq] at e
      subst e
      exact ⟨o8, by simp [forGo]⟩, fun e => by simp [toldO] at e⟩
  | x :: xs, A, k, o8, h, hk => by
    simp only [List.length_cons] at hk
    have h7 := s7 n A (S r) M (h.vs (by omega)) (hs.vk.vs (by omega)) hs.bd
    have step : ∀ R, R = run ds (n + 4) 7 [shD A, shD (S r)] M → b8t (run ds (n + 4)) [o0, some (.tup ss), o2, o3, o4, some (shD A), some (.int r), o7, some x, o9, o10] M = .ofE (gcO M R) [o0, some (.tup ss), o2, o3, o4, some (shD A), some (.int r), o7, some x, o9, o10] fun v m1 => .next [o0, some (.tup ss), o2, o3, o4, some v, some (.int r), o7, some x, o9, o10] m1 := fun R hR => by
      rw [hR]
      simp [b8t, opIx, hs.at_]
    simp only [List.length_cons, List.replicate_succ, toldO]
    by_cases c : (mulT A (S r)).length ≤ 2000
    · rw [if_pos c] at h7
      have hst := step _ h7.symm
      obtain ⟨g1, g2⟩ := rng8 n r hs xs (mulT A (S r)) (k + 20) (some x) (h.mul hs.vk c) (by omega)
      simp only [c, if_true]
      simp only [gcO_same, ofE_ok] at hst
      constructor
      · intro B e
        obtain ⟨o8', h1⟩ := g1 B e
        refine ⟨o8', ?_⟩
        have hb : bindP (.nm 8) x [o0, some (.tup ss), o2, o3, o4, some (shD A), some (.int r), o7, o8, o9, o10] = some [o0, some (.tup ss), o2, o3, o4, some (shD A), some (.int r), o7, some x, o9, o10] := rfl
        simp only [forGo, watchOk_nil, if_true, hb, hst]
        exact h1
      · intro e
        obtain ⟨ρ', h1⟩ := g2 e
        refine ⟨ρ', ?_⟩
        have hb : bindP (.nm 8) x [o0, some (.tup ss), o2, o3, o4, some (shD A), some (.int r), o7, o8, o9, o10] = some [o0, some (.tup ss), o2, o3, o4, some (shD A), some (.int r), o7, some x, o9, o10] := rfl
        simp only [forGo, watchOk_nil, if_true, hb, hst]
        exact h1
    · rw [if_neg c] at h7
      have hst := step _ h7.symm
      simp only [c, if_false]
      simp only [gcO_exc2, ofE_exc] at hst
      refine ⟨fun B e => (by cases e), fun _ => ⟨[o0, some (.tup ss), o2, o3, o4, some (shD A), some (.int r), o7, some x, o9, o10], ?_⟩⟩
      have hb : bindP (.nm 8) x [o0, some (.tup ss), o2, o3, o4, some (shD A), some (.int r), o7, o8, o9, o10] = some [o0, some (.tup ss), o2, o3, o4, some (shD A), some (.int r), o7, some x, o9, o10] := rfl
      simp only [forGo, watchOk_nil, if_true, hb, hst]
      rfl
theorem rows8 (n : Nat) (f : Int → Nat) : ∀ (l : List Int) (A : Tm) (k : Nat) (o6 o7 o8 : Option D), (∀ r ∈ l, SS ss S r ∧ f r ≤ 20) → Vk A k → k + 20 * ((l.map f).sum) ≤ 500 →
    (∀ B, toldO S (l.flatMap fun r => List.replicate (f r) r) A = some B → ∃ o6' o7' o8', forGo (b8r (run ds (n + 4))) (.tp [.nm 6, .nm 7]) [] (l.map fun r => D.tup [.int r, .int (f r : Int)]) [o0, some (.tup ss), o2, o3, o4, some (shD A), o6, o7, o8, o9, o10] M = .next [o0, some (.tup ss), o2, o3, o4, some (shD B), o6', o7', o8', o9, o10] M) ∧
    (toldO S (l.flatMap fun r => List.replicate (f r) r) A = none → ∃ ρ', forGo (b8r (run ds (n + 4))) (.tp [.nm 6, .nm 7]) [] (l.map fun r => D.tup [.int r, .int (f r : Int)]) [o0, some (.tup ss), o2, o3, o4, some (shD A), o6, o7, o8, o9, o10] M = .exc 2 none ρ' M)
  | [], A, k, o6, o7, o8, _, _, _ => ⟨fun B e => by
      simp only [List.flatMap_nil, toldO, Option.some.injEq] at e
      subst e
      exact ⟨o6, o7, o8, by simp [forGo]⟩, fun e => by simp [toldO] at e⟩
  | r :: l, A, k, o6, o7, o8, hl, h, hk => by
    simp only [List.map_cons, List.sum_cons] at hk
    obtain ⟨hs, hf⟩ := hl r (by simp)
    have hlen : (rangeD 0 (f r)).length = f r := rangeD_len _
    obtain ⟨g1, g2⟩ := rng8 (o0 := o0) (o2 := o2) (o3 := o3) (o4 := o4) (o7 := some (.int (f r : Int))) (o9 := o9) (o10 := o10) (M := M) n r hs (rangeD 0 (f r)) A k o8 h (by rw [hlen]; omega)
    rw [hlen] at g1 g2
    have hb : bindP (.tp [.nm 6, .nm 7]) (.tup [.int r, .int (f r : Int)]) [o0, some (.tup ss), o2, o3, o4, some (shD A), o6, o7, o8, o9, o10] = some [o0, some (.tup ss), o2, o3, o4, some (shD A), some (.int r), some (.int (f r : Int)), o8, o9, o10] := rfl
    have hit : iRange1 (aCons (xVar 7) (aNil)) (run ds (n + 4)) [o0, some (.tup ss), o2, o3, o4, some (shD A), some (.int r), some (.int (f r : Int)), o8, o9, o10] M = .ok ⟨rangeD 0 (f r), [], none⟩ M := irange1_ev (by omega) (by simp)
    have hfor : ∀ R, forGo (b8t (run ds (n + 4))) (.nm 8) [] (rangeD 0 (f r)) [o0, some (.tup ss), o2, o3, o4, some (shD A), some (.int r), some (.int (f r : Int)), o8, o9, o10] M = R → b8r (run ds (n + 4)) [o0, some (.tup ss), o2, o3, o4, some (shD A), some (.int r), some (.int (f r : Int)), o8, o9, o10] M = R := fun R hR => by
      unfold b8r sFor
      rw [hit]
      simp only [ofE_ok, lockM, hR]
      cases R <;> rfl
    simp only [List.flatMap_cons, toldO_app]
    cases e1 : toldO S (List.replicate (f r) r) A with
    | none =>
      obtain ⟨ρ', h1⟩ := g2 e1
      refine ⟨fun B e => by simp at e, fun _ => ⟨ρ', ?_⟩⟩
      simp only [List.map_cons, forGo, watchOk_nil, if_true, hb, hfor _ h1]
      rfl
    | some A2 =>
      obtain ⟨o8', h1⟩ := g1 A2 e1
      have hv := toldO_vk (ss := ss) (fun x hx => by rw [List.eq_of_mem_replicate hx]; exact hs) h e1
      rw [List.length_replicate] at hv
      obtain ⟨k1, k2⟩ := rows8 n f l A2 (k + 20 * f r) (some (.int r)) (some (.int (f r : Int))) o8' (fun x hx => hl x (by simp [hx])) hv (by omega)
      simp only [Option.bind_some]
      constructor
      · intro B e
        obtain ⟨o6', o7', o8'', h2⟩ := k1 B e
        refine ⟨o6', o7', o8'', ?_⟩
        simp only [List.map_cons, forGo, watchOk_nil, if_true, hb, hfor _ h1]
        exact h2
      · intro e
        obtain ⟨ρ', h2⟩ := k2 e
        refine ⟨ρ', ?_⟩
        simp only [List.map_cons, forGo, watchOk_nil, if_true, hb, hfor _ h1]
        exact h2
theorem sum_count (p : List Int) : ((usort p).map (fun r => p.count r)).sum = p.length := by
  have : ∀ (l : List Int) (f : Int → Nat), (l.flatMap fun r => List.replicate (f r) r).length = (l.map f).sum := by
    intro l f
    induction l with
    | nil => rfl
    | cons r l ih => simp [ih]
  rw [← this]
  have e : ((usort p).flatMap fun r => List.replicate (p.count r) r).Perm p := by
    have h1 := expand (isort p) (isort_sorted p)
    have hu : usort (isort p) = usort p := ascI_unique (usort_asc _) (usort_asc _) fun k => by rw [usort_mem, usort_mem, (isort_perm p).mem_iff]
    rw [hu] at h1
    have hc : (fun r => List.replicate ((isort p).count r) r) = fun r => List.replicate (p.count r) r := funext fun r => by rw [(isort_perm p).count_eq]
    rw [hc] at h1
    rw [h1]
    exact isort_perm p
  exact e.length_eq
/-- the rows of a product put in -/
theorem prod8 (n : Nat) (p : List Int) (hp : p.Pairwise (· ≤ ·)) (hl : p.length ≤ 20) (hs : ∀ r ∈ p, SS ss S r) :
    (∀ B, toldO S p oneT = some B → ∃ o6' o7' o8', sFor (iAny (xVar 3)) (.tp [.nm 6, .nm 7]) b8r (run ds (n + 4)) [o0, some (.tup ss), o2, some (prD p), o4, some (shD oneT), o6, o7, o8, o9, o10] M = .next [o0, some (.tup ss), o2, some (prD p), o4, some (shD B), o6', o7', o8', o9, o10] M) ∧
    (toldO S p oneT = none → ∃ ρ', sFor (iAny (xVar 3)) (.tp [.nm 6, .nm 7]) b8r (run ds (n + 4)) [o0, some (.tup ss), o2, some (prD p), o4, some (shD oneT), o6, o7, o8, o9, o10] M = .exc 2 none ρ' M) := by
  have hc : ∀ r ∈ usort p, SS ss S r ∧ p.count r ≤ 20 := fun r hr => ⟨hs r (usort_mem.mp hr), Nat.le_trans List.count_le_length hl⟩
  obtain ⟨g1, g2⟩ := rows8 (o0 := o0) (o2 := o2) (o3 := some (prD p)) (o4 := o4) (o9 := o9) (o10 := o10) (M := M) n (fun r => p.count r) (usort p) oneT 0 o6 o7 o8 hc Vk.one (by rw [sum_count]; omega)
  rw [expand p hp] at g1 g2
  have e : ((usort p).map fun r => D.tup [.int r, .int (p.count r : Int)]) = (kvK K1 (cntT p)).map pairD := by
    simp only [kvK, cntT, List.map_map]
    rfl
  rw [e] at g1 g2
  have hfor : ∀ R, forGo (b8r (run ds (n + 4))) (.tp [.nm 6, .nm 7]) [] ((kvK K1 (cntT p)).map pairD) [o0, some (.tup ss), o2, some (prD p), o4, some (shD oneT), o6, o7, o8, o9, o10] M = R → sFor (iAny (xVar 3)) (.tp [.nm 6, .nm 7]) b8r (run ds (n + 4)) [o0, some (.tup ss), o2, some (prD p), o4, some (shD oneT), o6, o7, o8, o9, o10] M = R := fun R hR => by
    unfold sFor
    have : iAny (xVar 3) (run ds (n + 4)) [o0, some (.tup ss), o2, some (prD p), o4, some (shD oneT), o6, o7, o8, o9, o10] M = .ok ⟨(kvK K1 (cntT p)).map pairD, [], none⟩ M := by simp [prD]
    rw [this]
    simp only [ofE_ok, lockM, hR]
    cases R <;> rfl
  refine ⟨fun B h => ?_, fun h => ?_⟩
  · obtain ⟨a, b, c, h1⟩ := g1 B h
    exact ⟨a, b, c, hfor _ h1⟩
  · obtain ⟨ρ', h1⟩ := g2 h
    exact ⟨ρ', hfor _ h1⟩
end
end K39
end Mn
set_option Elab.async false
set_option linter.all false
set_option maxRecDepth 100000
set_option maxHeartbeats 1000000
namespace Mn
namespace K39
open PySem
/-- the order in which a sum is written -/
noncomputable def srtT (A : Tm) : Tm := open Classical in if h : Gd A then (sh_items h).choose else A
theorem srt_perm {A : Tm} (h : Gd A) : (srtT A).Perm A := by
  unfold srtT
  rw [dif_pos h]
  exact (sh_items h).choose_spec.1
theorem items_fP (X : Tm) : (kvK prD X).map pairD = X.map fP := by simp [kvK, fP]
theorem srt_sh {A : Tm} (h : Gd A) : shD A = .tup ((srtT A).map fP) := by
  unfold srtT
  rw [dif_pos h]
  exact (sh_items h).choose_spec.2.1.trans (by rw [items_fP])
def b8a : DenS := sSub (xVar 2) (xGc (xVar 9)) (xGc (xBin opAdd (xMeth [("dict", fGet)] (xVar 2) (aCons (xVar 9) (aCons (xLit (.int 0)) (aNil)))) (xBin opMul (xVar 10) (xVar 4))))
def b8o : DenS := sSeq (sSet 5 (xGc (xLit (.tup [(.tup [(.tup []), (.int 1)])])))) (sSeq (sFor (iAny (xVar 3)) (.tp [.nm 6, .nm 7]) b8r) (sSeq (sFor (iAny (xVar 5)) (.tp [.nm 9, .nm 10]) b8a) (sIf (tGc (tB (xBin opGt (xCallF bLen (aCons (xVar 2) (aNil))) (xLit (.int 2000))))) (sRaise0 2) (sNil))))
def scT (c : Int) (A : Tm) : Tm := A.map fun t => (t.1, t.2 * c)
theorem one_sh : shD oneT = .tup [(.tup [(.tup []), (.int 1)])] := by
  have : (kvK prD oneT).map pairD = [.tup [.tup [], .int 1]] := rfl
  unfold shD
  rw [this]
  simp [sortD]
section
variable {ss : List D} {S : Int → Tm} {o0 o1 o2 o3 o4 o5 o6 o7 o8 o9 o10 : Option D} {m : Mem}
theorem add8 (fe : FE) (c : Int) (T F : Tm) (hT : ∀ t ∈ T, t.1.Pairwise (· ≤ ·)) (hF : ∀ q ∈ keysT F, q.Pairwise (· ≤ ·)) (nd : (keysT F).Nodup) (hl : F.length + T.length ≤ 100000) (hc : -(2 ^ 64) < c ∧ c < 2 ^ 64) :
    ∃ o9' o10', sFor (iAny (xVar 5)) (.tp [.nm 9, .nm 10]) b8a fe [o0, o1, some (.loc m.length), o3, some (.int c), some (.tup (T.map fP)), o6, o7, o8, o9, o10] (m ++ [.dict (kvK prD F) false]) = .next [o0, o1, some (.loc m.length), o3, some (.int c), some (.tup (T.map fP)), o6, o7, o8, o9', o10'] (m ++ [.dict (kvK prD (acc (scT c T) F)) false]) := by
  obtain ⟨ρ', h1, o9', o10', rfl⟩ := forGo_acc (b := b8a fe) (p := .tp [.nm 9, .nm 10]) (w := []) fP (fun t => (t.1, t.2 * c)) (fun ρ => ∃ o9 o10, ρ = [o0, o1, some (.loc m.length), o3, some (.int c), some (.tup (T.map fP)), o6, o7, o8, o9, o10]) (fun A => m ++ [.dict (kvK prD A) false]) (fun _ => rfl) T F [o0, o1, some (.loc m.length), o3, some (.int c), some (.tup (T.map fP)), o6, o7, o8, o9, o10] ⟨o9, o10, rfl⟩ (by
    rintro pre u post e ρ ⟨o9, o10, rfl⟩
    have hu := hT u (by rw [e]; simp)
    have hpl : pre.length ≤ T.length := by rw [e]; simp
    have hok : ∀ q ∈ keysT (acc (pre.map fun t => (t.1, t.2 * c)) F), q.Pairwise (· ≤ ·) := acc_ok hF fun q hq => by
      obtain ⟨v, hv, rfl⟩ := List.mem_map.mp hq
      obtain ⟨w, hw, rfl⟩ := List.mem_map.mp hv
      exact hT w (by rw [e]; simp [hw])
    have hnd := acc_nodup (ts := pre.map fun t => (t.1, t.2 * c)) nd
    have hlen := acc_len (pre.map fun t => (t.1, t.2 * c)) F
    rw [List.length_map] at hlen
    generalize acc (pre.map fun t => (t.1, t.2 * c)) F = A at *
    have hM : (m ++ [O.dict (kvK prD A) false])[m.length]? = some (.dict (kvK prD A) false) := by simp
    have g1 := upd_get kfP hok hu hM
    have g2 := upd_set kfP (c := u.2 * c) hok hnd hu hM (by omega)
    have g3 : (m ++ [O.dict (kvK prD A) false]).set m.length (.dict (kvK prD (addT A (u.1, u.2 * c))) false) = m ++ [O.dict (kvK prD (addT A (u.1, u.2 * c))) false] := by simp
    rw [g3] at g2
    have hb : (-18446744073709551616 < u.2 ∧ u.2 < 18446744073709551616) ∨ (-18446744073709551616 < c ∧ c < 18446744073709551616) := .inr (by omega)
    have hM2 : tyD (m ++ [O.dict (kvK prD A) false]) (.loc m.length) = "dict" := by simp [tyD]
    refine ⟨_, [o0, o1, some (.loc m.length), o3, some (.int c), some (.tup (T.map fP)), o6, o7, o8, some (prD u.1), some (.int u.2)], rfl, ?_, _, _, rfl⟩
    generalize prD u.1 = X at *
    simp [b8a, sSub, hM2, List.lookup, g1, opAdd, opMul, hb, g2])
  refine ⟨o9', o10', ?_⟩
  unfold sFor
  have : iAny (xVar 5) fe [o0, o1, some (.loc m.length), o3, some (.int c), some (.tup (T.map fP)), o6, o7, o8, o9, o10] (m ++ [.dict (kvK prD F) false]) = .ok ⟨T.map fP, [], none⟩ (m ++ [.dict (kvK prD F) false]) := by simp
  rw [this]
  simp only [ofE_ok, lockM, h1, unlockS, unlockM]
  rfl
/-- one turn of put -/
theorem turn8 (n : Nat) (w : List Int × Int) (F T : Tm) (hp : w.1.Pairwise (· ≤ ·)) (hl : w.1.length ≤ 20) (hs : ∀ r ∈ w.1, SS ss S r) (hc : -(2 ^ 64) < w.2 ∧ w.2 < 2 ^ 64) (hT : toldO S w.1 oneT = some T) (hF : ∀ q ∈ keysT F, q.Pairwise (· ≤ ·)) (nd : (keysT F).Nodup) (hFl : F.length ≤ 2000) :
    ∃ o5' o6' o7' o8' o9' o10', b8o (run ds (n + 4)) [o0, some (.tup ss), some (.loc m.length), some (prD w.1), some (.int w.2), o5, o6, o7, o8, o9, o10] (m ++ [.dict (kvK prD F) false]) = if (acc (scT w.2 (srtT T)) F).length ≤ 2000 then .next [o0, some (.tup ss), some (.loc m.length), some (prD w.1), some (.int w.2), o5', o6', o7', o8', o9', o10'] (m ++ [.dict (kvK prD (acc (scT w.2 (srtT T)) F)) false]) else .exc 2 none [o0, some (.tup ss), some (.loc m.length), some (prD w.1), some (.int w.2), o5', o6', o7', o8', o9', o10'] (m ++ [.dict (kvK prD (acc (scT w.2 (srtT T)) F)) false]) := by
  have hv := toldO_vk (ss := ss) hs Vk.one hT
  have hsp := srt_perm hv.gd
  obtain ⟨o6', o7', o8', h1⟩ := (prod8 (o0 := o0) (o2 := some (.loc m.length)) (o4 := some (.int w.2)) (o6 := o6) (o7 := o7) (o8 := o8) (o9 := o9) (o10 := o10) (M := m ++ [.dict (kvK prD F) false]) n w.1 hp hl hs).1 T hT
  obtain ⟨o9', o10', h2⟩ := add8 (o0 := o0) (o1 := some (.tup ss)) (o3 := some (prD w.1)) (o6 := o6') (o7 := o7') (o8 := o8') (o9 := o9) (o10 := o10) (m := m) (run ds (n + 4)) w.2 (srtT T) F (fun t ht => hv.gd.srt t (hsp.mem_iff.mp ht)) hF nd (by have := hsp.length_eq; have := hv.len; omega) hc
  rw [← srt_sh hv.gd] at h2
  rw [one_sh] at h1
  refine ⟨some (shD T), o6', o7', o8', o9', o10', ?_⟩
  generalize acc (scT w.2 (srtT T)) F = R at *
  by_cases c : R.length ≤ 2000
  · have c1 : ¬ (2000 : Int) < R.length := by omega
    rw [if_pos c]
    simp [b8o, h1, h2, bLen, kvK_len, opGt, c1]
  · have c1 : (2000 : Int) < R.length := by omega
    rw [if_neg c]
    simp [b8o, h1, h2, bLen, kvK_len, opGt, c1]
/-- one turn of put that goes too far -/
theorem turn8x (n : Nat) (w : List Int × Int) (F : Tm) (hp : w.1.Pairwise (· ≤ ·)) (hl : w.1.length ≤ 20) (hs : ∀ r ∈ w.1, SS ss S r) (hT : toldO S w.1 oneT = none) :
    ∃ ρ', b8o (run ds (n + 4)) [o0, some (.tup ss), some (.loc m.length), some (prD w.1), some (.int w.2), o5, o6, o7, o8, o9, o10] (m ++ [.dict (kvK prD F) false]) = .exc 2 none ρ' (m ++ [.dict (kvK prD F) false]) := by
  obtain ⟨ρ', h1⟩ := (prod8 (o0 := o0) (o2 := some (.loc m.length)) (o4 := some (.int w.2)) (o6 := o6) (o7 := o7) (o8 := o8) (o9 := o9) (o10 := o10) (M := m ++ [.dict (kvK prD F) false]) n w.1 hp hl hs).2 hT
  rw [one_sh] at h1
  exact ⟨ρ', by simp [b8o, h1]⟩
end
/-- what is put in -/
structure WS (W : Tm) (ss : List D) (S : Int → Tm) : Prop where
  gd : Gd W
  len : W.length ≤ 2000
  sz : ∀ w ∈ W, w.1.length ≤ 20
  bd : ∀ w ∈ W, w.2 < 2 ^ 64
  rows : ∀ w ∈ W, ∀ r ∈ w.1, SS ss S r
noncomputable def gT (S : Int → Tm) (w : List Int × Int) : Tm := scT w.2 (srtT (toldT S w.1 oneT))
theorem ed8 : d8 = sSeq (sSet 2 (xGc (xEmpty))) (sSeq (sFor (iAny (xVar 0)) (.tp [.nm 3, .nm 4]) b8o) (sRet (xGc (xCall 5 (aCons (xVar 2) (aNil)))))) := rfl
theorem for8 {fe : FE} {W' : Tm} {ss : List D} {m : Mem} {R : OutS} (h : forGo (b8o fe) (.tp [.nm 3, .nm 4]) [] (W'.map fP) [some (.tup (W'.map fP)), some (.tup ss), some (.loc m.length), none, none, none, none, none, none, none, none] (m ++ [.dict (kvK prD []) false]) = R) :
    sFor (iAny (xVar 0)) (.tp [.nm 3, .nm 4]) b8o fe [some (.tup (W'.map fP)), some (.tup ss), some (.loc m.length), none, none, none, none, none, none, none, none] (m ++ [.dict [] false]) = R := by
  have e0 : kvK prD [] = [] := rfl
  rw [e0] at h
  unfold sFor
  have : iAny (xVar 0) fe [some (.tup (W'.map fP)), some (.tup ss), some (.loc m.length), none, none, none, none, none, none, none, none] (m ++ [.dict [] false]) = .ok ⟨W'.map fP, [], none⟩ (m ++ [.dict [] false]) := by simp
  rw [this]
  simp only [ofE_ok, lockM, h]
  cases R <;> rfl
theorem s8 (n : Nat) (W : Tm) (ss : List D) (S : Int → Tm) (m : Mem) (h : WS W ss S) (hT : ∀ w ∈ W, (toldO S w.1 oneT).isSome = true) (hl : (putAll S W).length ≤ 2000) : run ds (n + 5) 8 [shD W, .tup ss] m = .ok (shD (putAll S W)) m := by
  have hsp := srt_perm h.gd
  rw [srt_sh h.gd]
  have hmem : ∀ w ∈ srtT W, w ∈ W := fun w hw => hsp.mem_iff.mp hw
  have hvk : ∀ w ∈ W, Vk (toldT S w.1 oneT) (0 + 20 * w.1.length) := fun w hw => by
    obtain ⟨T, e⟩ := Option.isSome_iff_exists.mp (hT w hw)
    rw [← toldO_is e]
    exact toldO_vk (h.rows w hw) Vk.one e
  have hperm : ((srtT W).flatMap (gT S)).Perm (termsT S W) := (List.Perm.flatMap_right _ hsp).trans (flat_perm fun w hw => (srt_perm (hvk w hw).gd).map _)
  have hpa : (acc ((srtT W).flatMap (gT S)) []).Perm (putAll S W) := acc_perm hperm
  have hgs : ∀ w ∈ W, ∀ t ∈ gT S w, t.1.Pairwise (· ≤ ·) ∧ 1 ≤ t.2 := fun w hw t ht => by
    obtain ⟨u, hu, rfl⟩ := List.mem_map.mp ht
    have hu' := (srt_perm (hvk w hw).gd).mem_iff.mp hu
    refine ⟨(hvk w hw).gd.srt u hu', ?_⟩
    have h1 := (hvk w hw).gd.pos u hu'
    have h2 := h.gd.pos w hw
    have := Int.mul_le_mul h1 h2 (by omega) (by omega)
    simpa using this
  have hgd : Gd (acc ((srtT W).flatMap (gT S)) []) := acc_good (fun t ht => by
    obtain ⟨w, hw, ht⟩ := List.mem_flatMap.mp ht
    exact (hgs w (hmem w hw) t ht).1) fun t ht => by
    obtain ⟨w, hw, ht⟩ := List.mem_flatMap.mp ht
    exact (hgs w (hmem w hw) t ht).2
  obtain ⟨l1, _⟩ := forGo_accX (b := b8o (run ds (n + 4))) (p := .tp [.nm 3, .nm 4]) (w := []) fP (gT S) (fun ρ => ∃ o3 o4 o5 o6 o7 o8 o9 o10, ρ = [some (.tup ((srtT W).map fP)), some (.tup ss), some (.loc m.length), o3, o4, o5, o6, o7, o8, o9, o10]) (fun F => m ++ [.dict (kvK prD F) false]) (fun _ => rfl) (srtT W) [] [some (.tup ((srtT W).map fP)), some (.tup ss), some (.loc m.length), none, none, none, none, none, none, none, none] ⟨none, none, none, none, none, none, none, none, rfl⟩ (by simp) (by
    rintro pre w post e hle ρ ⟨o3, o4, o5, o6, o7, o8, o9, o10, rfl⟩
    have hw : w ∈ W := hmem w (by rw [e]; simp)
    obtain ⟨T, eT⟩ := Option.isSome_iff_exists.mp (hT w hw)
    have hTT := toldO_is eT
    have hok : ∀ q ∈ keysT (acc (pre.flatMap (gT S)) []), q.Pairwise (· ≤ ·) := acc_ok (by simp [keysT]) fun q hq => by
      obtain ⟨v, hv, rfl⟩ := List.mem_map.mp hq
      obtain ⟨x, hx, hxv⟩ := List.mem_flatMap.mp hv
      exact (hgs x (hmem x (by rw [e]; simp [hx])) v hxv).1
    have hnd : (keysT (acc (pre.flatMap (gT S)) [])).Nodup := acc_nodup (by simp [keysT])
    have h2 := h.gd.pos w hw
    have h3 := h.bd w hw
    obtain ⟨o5', o6', o7', o8', o9', o10', ht⟩ := turn8 (o0 := some (.tup ((srtT W).map fP))) (o5 := o5) (o6 := o6) (o7 := o7) (o8 := o8) (o9 := o9) (o10 := o10) (m := m) n w (acc (pre.flatMap (gT S)) []) T (h.gd.srt w hw) (h.sz w hw) (h.rows w hw) ⟨by omega, h3⟩ eT hok hnd hle
    rw [hTT] at ht
    exact ⟨_, _, rfl, ⟨_, _, _, _, _, _, _, _, rfl⟩, ht⟩)
  rw [← hpa.length_eq] at hl
  obtain ⟨ρ', h1, o3, o4, o5, o6, o7, o8, o9, o10, rfl⟩ := l1 hl
  have hf := for8 h1
  rw [← sh_perm hgd hpa]
  generalize acc ((srtT W).flatMap (gT S)) [] = R at *
  have h5 := s5 (n + 3) m.length R (m ++ [.dict (kvK prD R) false]) hgd (by simp) (by omega)
  rw [if_pos hl] at h5
  have hcl := fun k => kvK_items_closed (n := k) kfP (gd_ok hgd)
  have e2 : shD R = .tup (sortD ((kvK prD R).map pairD)) := rfl
  rw [← e2] at hcl
  generalize shD R = RR at *
  have g0 : gcO m (.ok (.loc m.length) (m ++ [.dict [] false])) = .ok (.loc m.length) (m ++ [.dict [] false]) := by simp [gcO, closed]
  rw [r8, ed8]
  simp [xEmpty, g0, hf, h5, hcl]
/-- a whole of one product that goes too far -/
theorem s8x (n : Nat) (w : List Int × Int) (ss : List D) (S : Int → Tm) (m : Mem) (h : WS [w] ss S) (hT : toldO S w.1 oneT = none) : run ds (n + 5) 8 [shD [w], .tup ss] m = .exc 2 none m := by
  have hsp := srt_perm h.gd
  have hs1 : srtT [w] = [w] := List.perm_singleton.mp hsp
  rw [srt_sh h.gd, hs1]
  obtain ⟨ρ', ht⟩ := turn8x (o0 := some (.tup ([w].map fP))) (o5 := none) (o6 := none) (o7 := none) (o8 := none) (o9 := none) (o10 := none) (m := m) n w [] (h.gd.srt w (by simp)) (h.sz w (by simp)) (h.rows w (by simp)) hT
  have h1 : forGo (b8o (run ds (n + 4))) (.tp [.nm 3, .nm 4]) [] ([w].map fP) [some (.tup ([w].map fP)), some (.tup ss), some (.loc m.length), none, none, none, none, none, none, none, none] (m ++ [.dict (kvK prD []) false]) = .exc 2 none ρ' (m ++ [.dict (kvK prD []) false]) := by
    have hb : bindP (.tp [.nm 3, .nm 4]) (fP w) [some (.tup ([w].map fP)), some (.tup ss), some (.loc m.length), none, none, none, none, none, none, none, none] = some [some (.tup ([w].map fP)), some (.tup ss), some (.loc m.length), some (prD w.1), some (.int w.2), none, none, none, none, none, none] := rfl
    show forGo _ _ _ [fP w] _ _ = _
    simp only [forGo, watchOk_nil, if_true, hb, ht]
    rfl
  have hf := for8 h1
  simp only [List.map_cons, List.map_nil] at hf
  have g0 : gcO m (.ok (.loc m.length) (m ++ [.dict [] false])) = .ok (.loc m.length) (m ++ [.dict [] false]) := by simp [gcO, closed]
  rw [r8, ed8]
  simp [xEmpty, g0, hf]
end K39
end Mn
set_option Elab.async false
set_option linter.all false
set_option maxRecDepth 100000
set_option maxHeartbeats 1000000
namespace Mn
open PySem
theorem lc2Go_pure {t1 : Env → Mem → Out Bool} {it2 : Env → Mem → Out Itr} {t2 : Env → Mem → Out Bool} {e : Env → Mem → Out D} {p1 p2 : Pat} {vs1 : List Nat} {w1 : Watch} {ρ : Env} {m : Mem} (ys : D → List D) (E : D → D) (hw : watchOk w1 m = true) : ∀ (xs acc : List D), acc.length + (xs.flatMap ys).length ≤ sizeLine →
    (∀ x ∈ xs, ∃ ρ1, bindP p1 x ρ = some ρ1 ∧ t1 ρ1 m = .ok true m ∧ it2 ρ1 m = .ok ⟨ys x, [], none⟩ m ∧ ∀ y ∈ ys x, ∃ ρ2, bindP p2 y (wipeE ρ1 vs1) = some ρ2 ∧ t2 ρ2 m = .ok true m ∧ e ρ2 m = .ok (E y) m) →
    lc2Go t1 it2 t2 e p1 p2 vs1 w1 ρ xs acc m = .ok (acc ++ (xs.flatMap ys).map E) m
  | [], acc, hl, h => by simp [lc2Go, hw]
  | x :: xs, acc, hl, h => by
    obtain ⟨ρ1, h1, h2, h3, h4⟩ := h x (by simp)
    simp only [List.flatMap_cons, List.length_append] at hl
    have hin := lcGo_pure (t := t2) (e := e) (p := p2) (w := []) (ρ := wipeE ρ1 vs1) (m := m) (fun _ => true) E rfl (ys x) acc (by omega) fun y hy => by
      obtain ⟨ρ2, g1, g2, g3⟩ := h4 y hy
      exact ⟨ρ2, g1, g2, fun _ => g3⟩
    rw [List.filter_eq_self.mpr (by simp)] at hin
    simp only [lc2Go, hw, if_true, h1, h2, noX_ok, Out.bind_ok, h3, hin]
    rw [lc2Go_pure ys E hw xs _ (by rw [List.length_append, List.length_map]; omega) fun y hy => h y (by simp [hy])]
    simp
theorem xLc2_bools {it1 : DenI} {p1 : Pat} {t1 : DenT} {it2 : DenI} {p2 : Pat} {t2 : DenT} {e : Den} {own vs1 : List Nat} {fe : FE} {ρ : Env} {m : Mem} {xs : List D} (ys : D → List D) (B : D → Bool) (hit : it1 fe ρ m = .ok ⟨xs, [], none⟩ m) (hl : (xs.flatMap ys).length ≤ sizeLine)
    (h : ∀ x ∈ xs, ∃ ρ1, bindP p1 x (wipeE ρ own) = some ρ1 ∧ t1 fe ρ1 m = .ok true m ∧ it2 fe ρ1 m = .ok ⟨ys x, [], none⟩ m ∧ ∀ y ∈ ys x, ∃ ρ2, bindP p2 y (wipeE ρ1 vs1) = some ρ2 ∧ t2 fe ρ2 m = .ok true m ∧ e fe ρ2 m = .ok (.bl (B y)) m) :
    xLc2 it1 p1 t1 it2 p2 t2 e own vs1 fe ρ m = .ok (.loc m.length) (m ++ [.lst ((xs.flatMap ys).map fun y => .bl (B y))]) := by
  unfold xLc2
  rw [hit]
  simp only [Out.bind_ok, if_true]
  rw [lc2Go_pure ys (fun y => .bl (B y)) rfl xs [] (by simpa using hl) h]
  simp
end Mn
namespace Mn
namespace K39
open PySem
def ysR : D → List D
  | .tup [.tup rs, _] => rs
  | _ => []
def ltR (k : Nat) : D → Bool
  | .tup [.int r, _] => decide (r < k)
  | _ => false
def e9c : DenT := tGc (tNt (tVal (xCallF bAll (aCons (xLc2 (iAny (xVar 0)) (.tp [.nm 3, .nm 4]) (tYesD) (iAny (xVar 3)) (.tp [.nm 5, .nm 4]) (tYesD) (xGc (xBin opLt (xVar 5) (xCallF bLen (aCons (xVar 1) (aNil))))) [3, 4, 5] [5, 4]) (aNil)))))
def e9b : DenT := tGc (tNt (tVal (xCallF bAll (aCons (xLc (iAny (xVar 1)) (.nm 2) (tYesD) (xGc (xCall 3 (aCons (xVar 2) (aCons (xLit (.int 40)) (aNil))))) [2]) (aNil)))))
theorem ed9 : d9 = sSeq (sIf (tGc (tOo (tNt (tVal (xCall 3 (aCons (xVar 0) (aCons (xLit (.int 40)) (aNil)))))) (tNt (tVal (xIsi ["tuple"] (xVar 1)))))) (sRaise0 1) (sNil)) (sSeq (sIf e9b (sRaise0 1) (sNil)) (sSeq (sIf e9c (sRaise0 1) (sNil)) (sRet (xGc (xCall 8 (aCons (xVar 0) (aCons (xVar 1) (aNil)))))))) := rfl
section
variable {m : Mem} {x y : D} {ss : List D} {W : Tm}
theorem s9a (n : Nat) (h : run ds (n + 5) 3 [x, .int 40] m = .ok (.bl false) m) : run ds (n + 6) 9 [x, y] m = .exc 1 none m := by
  rw [r9, ed9]
  simp [h, truth]
theorem s9l (n l : Nat) (xs : List D) (h : run ds (n + 5) 3 [x, .int 40] m = .ok (.bl true) m) (hl : m[l]? = some (.lst xs)) : run ds (n + 6) 9 [x, .loc l] m = .exc 1 none m := by
  rw [r9, ed9]
  simp [h, truth, tyN, hl, isT]
theorem ev9b (n : Nat) (E : D → Bool) (o2 o3 o4 o5 : Option D) (hl : ss.length ≤ 1000) (h : ∀ d ∈ ss, run ds (n + 5) 3 [d, .int 40] m = .ok (.bl (E d)) m) : e9b (run ds (n + 5)) [some x, some (.tup ss), o2, o3, o4, o5] m = .ok (!(ss.all E)) m := by
  have z := sizeLine_is
  have hlc := xLc_bools (fe := run ds (n + 5)) (ρ := [some x, some (.tup ss), o2, o3, o4, o5]) (m := m) (m1 := m) (it := iAny (xVar 1)) (p := .nm 2) (own := [2]) (e := xGc (xCall 3 (aCons (xVar 2) (aCons (xLit (.int 40)) (aNil))))) E (xs := ss) (w := [])
    (by simp) rfl (by omega) fun d hd => by
      refine ⟨_, rfl, ?_⟩
      simp [wipeE, h d hd]
  simp [e9b, hlc, truth]
theorem s9b (n : Nat) (E : D → Bool) (hl : ss.length ≤ 1000) (h0 : run ds (n + 5) 3 [x, .int 40] m = .ok (.bl true) m) (h : ∀ d ∈ ss, run ds (n + 5) 3 [d, .int 40] m = .ok (.bl (E d)) m) (hE : ss.all E = false) : run ds (n + 6) 9 [x, .tup ss] m = .exc 1 none m := by
  have hb := fun o2 o3 o4 o5 => ev9b (x := x) (m := m) n E o2 o3 o4 o5 hl h
  rw [hE] at hb
  rw [r9, ed9]
  simp [h0, truth, tyN, isT, hb]
theorem ev9c (n : Nat) (o2 o3 o4 o5 : Option D) (hl : W.length ≤ 2000) (hg : ∀ w ∈ W, w.1.length ≤ 20) : e9c (run ds (n + 5)) [some (.tup (W.map fP)), some (.tup ss), o2, o3, o4, o5] m = .ok (!((W.map fP).flatMap ysR).all (ltR ss.length)) m := by
  have z := sizeLine_is
  have hys : ∀ w : List Int × Int, ysR (fP w) = (kvK K1 (cntT w.1)).map pairD := fun w => rfl
  have hlen : ((W.map fP).flatMap ysR).length ≤ W.length * 20 := by
    have : ∀ V : Tm, (∀ w ∈ V, w.1.length ≤ 20) → ((V.map fP).flatMap ysR).length ≤ V.length * 20 := by
      intro V
      induction V with
      | nil => simp
      | cons w r ih =>
        intro h
        have := ih fun x hx => h x (by simp [hx])
        have h2 := usort_len w.1
        have h3 := h w (by simp)
        simp only [List.map_cons, List.flatMap_cons, List.length_append, hys, List.length_cons]
        have h4 : ((kvK K1 (cntT w.1)).map pairD).length = (usort w.1).length := by simp [kvK, cntT]
        omega
    exact this W hg
  have hlc := xLc2_bools (fe := run ds (n + 5)) (ρ := [some (.tup (W.map fP)), some (.tup ss), o2, o3, o4, o5]) (m := m) (it1 := iAny (xVar 0)) (p1 := .tp [.nm 3, .nm 4]) (t1 := tYesD) (it2 := iAny (xVar 3)) (p2 := .tp [.nm 5, .nm 4]) (t2 := tYesD) (e := xGc (xBin opLt (xVar 5) (xCallF bLen (aCons (xVar 1) (aNil))))) (own := [3, 4, 5]) (vs1 := [5, 4]) (xs := W.map fP) ysR (ltR ss.length)
    (by simp) (by omega) fun d hd => by
      obtain ⟨w, hw, rfl⟩ := List.mem_map.mp hd
      refine ⟨_, rfl, rfl, by simp [wipeE, prD, hys], fun y hy => ?_⟩
      rw [hys] at hy
      simp only [kvK, cntT, List.map_map, List.mem_map, Function.comp_apply] at hy
      obtain ⟨r, _, rfl⟩ := hy
      refine ⟨_, rfl, rfl, ?_⟩
      simp [wipeE, K1, bLen, opLt, ltR]
      rfl
  simp [e9c, hlc, truth]
theorem s9r (n : Nat) (E : D → Bool) (R : Out D) (hg : Gd W) (hWl : W.length ≤ 2000) (hWs : ∀ w ∈ W, w.1.length ≤ 20) (hl : ss.length ≤ 1000) (h0 : run ds (n + 5) 3 [shD W, .int 40] m = .ok (.bl true) m) (h : ∀ d ∈ ss, run ds (n + 5) 3 [d, .int 40] m = .ok (.bl true) m) :
    ((∃ w ∈ W, ∃ r ∈ w.1, ¬ r < (ss.length : Int)) → run ds (n + 6) 9 [shD W, .tup ss] m = .exc 1 none m) ∧
    ((∀ w ∈ W, ∀ r ∈ w.1, r < (ss.length : Int)) → (∀ v, run ds (n + 5) 8 [shD W, .tup ss] m = .ok v m → run ds (n + 6) 9 [shD W, .tup ss] m = .ok v m) ∧ (run ds (n + 5) 8 [shD W, .tup ss] m = .exc 2 none m → run ds (n + 6) 9 [shD W, .tup ss] m = .exc 2 none m)) := by
  have hsp := srt_perm hg
  have hb := fun o2 o3 o4 o5 => ev9b (x := shD W) (m := m) n (fun _ => true) o2 o3 o4 o5 hl h
  have ha : (ss.all fun _ => true) = true := by simp
  rw [ha] at hb
  have hc := fun o2 o3 o4 o5 => ev9c (W := srtT W) (ss := ss) (m := m) n o2 o3 o4 o5 (by rw [hsp.length_eq]; exact hWl) fun w hw => hWs w (hsp.mem_iff.mp hw)
  rw [srt_sh hg] at h0 hb ⊢
  have hall : (((srtT W).map fP).flatMap ysR).all (ltR ss.length) = true ↔ ∀ w ∈ W, ∀ r ∈ w.1, r < (ss.length : Int) := by
    simp only [List.all_eq_true, List.mem_flatMap, List.mem_map]
    constructor
    · intro h w hw r hr
      have := h (.tup [.int r, .int (w.1.count r : Int)]) ⟨fP w, ⟨w, hsp.mem_iff.mpr hw, rfl⟩, by
        show _ ∈ (kvK K1 (cntT w.1)).map pairD
        simp only [kvK, cntT, List.map_map, List.mem_map, Function.comp_apply, usort_mem]
        exact ⟨r, hr, rfl⟩⟩
      simpa [ltR] using this
    · rintro h d ⟨x, ⟨w, hw, rfl⟩, hd⟩
      have hd' : d ∈ (kvK K1 (cntT w.1)).map pairD := hd
      simp only [kvK, cntT, List.map_map, List.mem_map, Function.comp_apply, usort_mem] at hd'
      obtain ⟨r, hr, rfl⟩ := hd'
      have := h w (hsp.mem_iff.mp hw) r hr
      simpa [pairD, K1, ltR] using this
  constructor
  · rintro ⟨w, hw, r, hr, hn⟩
    have hf : (((srtT W).map fP).flatMap ysR).all (ltR ss.length) = false := by
      cases c : (((srtT W).map fP).flatMap ysR).all (ltR ss.length) with
      | false => rfl
      | true => exact absurd (hall.mp c w hw r hr) hn
    rw [hf] at hc
    rw [r9, ed9]
    simp [h0, truth, tyN, isT, hb, hc]
  · intro hh
    have hf := hall.mpr hh
    rw [hf] at hc
    constructor
    · intro v hv
      rw [r9, ed9]
      simp [h0, truth, tyN, isT, hb, hc, hv]
    · intro hv
      rw [r9, ed9]
      simp [h0, truth, tyN, isT, hb, hc, hv]
theorem of_is : tx.of 1 1 = true ∧ tx.of 1 2 = false ∧ tx.of 2 2 = true := by decide +kernel
theorem s16ok (n : Nat) (v : D) (h : run ds n 9 [x, y] m = .ok v m) : run ds (n + 1) 16 [x, y] m = .ok v m := by
  simp [r16, d16, sTry, h]
theorem s16sum (n : Nat) (h : run ds n 9 [x, y] m = .exc 1 none m) : run ds (n + 1) 16 [x, y] m = .ok (.str "sum") m := by
  simp [r16, d16, sTry, h, handleD, of_is.1, noXS]
theorem s16far (n : Nat) (h : run ds n 9 [x, y] m = .exc 2 none m) : run ds (n + 1) 16 [x, y] m = .ok (.str "far") m := by
  simp [r16, d16, sTry, h, handleD, of_is.2.1, of_is.2.2, noXS]
end
end K39
end Mn
set_option Elab.async false
set_option linter.all false
set_option maxRecDepth 100000
set_option maxHeartbeats 1000000
namespace Mn
namespace K39
open PySem
/-- a loop that adds up several terms each turn -/
theorem forGo_accG {α : Type} {b : Env → Mem → OutS} {p : Pat} {w : Watch} (f : α → D) (G : α → Tm) (I : Env → Prop) (Mf : Tm → Mem) (hw : ∀ A, watchOk w (Mf A) = true) : ∀ (ts : List α) (A : Tm) (ρ : Env), I ρ →
    (∀ pre t post, ts = pre ++ t :: post → ∀ ρ, I ρ → ∃ ρ1 ρ2, bindP p (f t) ρ = some ρ1 ∧ I ρ2 ∧ b ρ1 (Mf (acc (pre.flatMap G) A)) = .next ρ2 (Mf (acc (G t) (acc (pre.flatMap G) A)))) →
    ∃ ρ', forGo b p w (ts.map f) ρ (Mf A) = .next ρ' (Mf (acc (ts.flatMap G) A)) ∧ I ρ'
  | [], A, ρ, i, _ => ⟨ρ, by simp [forGo, hw, acc], i⟩
  | t :: ts, A, ρ, i, h => by
    obtain ⟨ρ1, ρ2, h1, i2, h2⟩ := h [] t ts rfl ρ i
    have h2' : b ρ1 (Mf A) = .next ρ2 (Mf (acc (G t) A)) := h2
    obtain ⟨ρ', h3, i3⟩ := forGo_accG f G I Mf hw ts (acc (G t) A) ρ2 i2 fun pre u post e ρ iρ => by
      have := h (t :: pre) u post (by rw [e]; rfl) ρ iρ
      rw [List.flatMap_cons, acc_app] at this
      exact this
    have ea : acc ((t :: ts).flatMap G) A = acc (ts.flatMap G) (acc (G t) A) := by rw [List.flatMap_cons, acc_app]
    rw [ea]
    exact ⟨ρ', by simp only [List.map_cons, forGo, hw, if_true, h1, h2']; exact h3, i3⟩
theorem lock_app {l : Nat} {m x : Mem} {kvs : List (D × D)} (h : m[l]? = some (.dict kvs false)) : lockM (some l) (m ++ x) = m.set l (.dict kvs true) ++ x := by
  have hl : l < m.length := (List.getElem?_eq_some_iff.mp h).1
  have e : (m ++ x)[l]? = some (.dict kvs false) := by rw [List.getElem?_append_left hl]; exact h
  simp only [lockM, e, set_app_len hl]
theorem unlock_app {l : Nat} {m x : Mem} {kvs : List (D × D)} (h : m[l]? = some (.dict kvs false)) : unlockM (some l) (m.set l (.dict kvs true) ++ x) = m ++ x := by
  have hl : l < m.length := (List.getElem?_eq_some_iff.mp h).1
  have e : (m.set l (.dict kvs true) ++ x)[l]? = some (.dict kvs true) := by rw [List.getElem?_append_left (by simpa using hl)]; simp [hl]
  have e2 : (m.set l (.dict kvs true)).set l (.dict kvs false) = m := by rw [List.set_set, set_self h]
  simp only [unlockM, e, set_app_len (show l < (m.set l (.dict kvs true)).length by simpa using hl), e2]
theorem iAny_dict {fe : FE} {ρ : Env} {i l : Nat} {m : Mem} {A : Tm} {K : List Int → D} (hi : ρ[i]? = some (some (.loc l))) (h : m[l]? = some (.dict (kvK K A) false)) : iAny (xVar i) fe ρ m = .ok ⟨A.map fun t => K t.1, [], some l⟩ m := by
  simp only [iAny_ev, xVar_ev, hi, Out.bind_ok, h]
  simp [kvK]
def fR (t : List Int × Int) : D := rowK t.1
def b14i : DenS := sSeq (sSet 5 (xGc (xCallF bTuple (aCons (xCallF bSorted (aCons (xBin opAdd (xVar 3) (xVar 4)) (aNil))) (aNil))))) (sSub (xVar 2) (xGc (xVar 5)) (xGc (xBin opAdd (xMeth [("dict", fGet)] (xVar 2) (aCons (xVar 5) (aCons (xLit (.int 0)) (aNil)))) (xBin opMul (xBin opIx (xVar 0) (xVar 3)) (xBin opIx (xVar 1) (xVar 4))))))
/-- a law's sum within limits -/
structure LS (A : Tm) (k : Nat) : Prop where
  gd : Gd A
  len : A.length ≤ k
  sz : ∀ t ∈ A, t.1.length ≤ 500
theorem get_of {A : Tm} (nd : (keysT A).Nodup) {t : List Int × Int} (h : t ∈ A) : getT A t.1 = t.2 := ((mem_get nd).mp (show (t.1, t.2) ∈ A from h)).2.symm
theorem key_of {A : Tm} {t : List Int × Int} (h : t ∈ A) : t.1 ∈ keysT A := List.mem_map.mpr ⟨t, h, rfl⟩
section
variable {M : Mem} {a b : Nat} {A B : Tm}
theorem step14 (fe : FE) (t u : List Int × Int) (F : Tm) (M2 : Mem) (la lb : Bool) (ht : t ∈ A) (hu : u ∈ B) (ga : Gd A) (gb : Gd B) (h1 : t.1.length ≤ 500) (h2 : u.1.length ≤ 500) (hb : u.2 < 2 ^ 64) (nd : (keysT F).Nodup) (hl : F.length < 1000000) (o5 : Option D)
    (ha : M2[a]? = some (.dict (kvK rowK A) la)) (hbb : M2[b]? = some (.dict (kvK rowK B) lb)) :
    b14i fe [some (.loc a), some (.loc b), some (.loc M2.length), some (rowK t.1), some (rowK u.1), o5] (M2 ++ [.dict (kvK rowK F) false]) = .next [some (.loc a), some (.loc b), some (.loc M2.length), some (rowK t.1), some (rowK u.1), some (rowK (mg t.1 u.1))] (M2 ++ [.dict (kvK rowK (addT F (mg t.1 u.1, t.2 * u.2))) false]) := by
  have z := sizeLine_is
  have hal : a < M2.length := (List.getElem?_eq_some_iff.mp ha).1
  have hbl : b < M2.length := (List.getElem?_eq_some_iff.mp hbb).1
  have hM : (M2 ++ [O.dict (kvK rowK F) false])[M2.length]? = some (.dict (kvK rowK F) false) := by simp
  have ha' : (M2 ++ [O.dict (kvK rowK F) false])[a]? = some (.dict (kvK rowK A) la) := by rw [List.getElem?_append_left hal]; exact ha
  have hb' : (M2 ++ [O.dict (kvK rowK F) false])[b]? = some (.dict (kvK rowK B) lb) := by rw [List.getElem?_append_left hbl]; exact hbb
  have g1 := upd_get kfR (A := F) (p := mg t.1 u.1) (fun _ _ => trivial) trivial hM
  have g2 := upd_set kfR (A := F) (p := mg t.1 u.1) (c := t.2 * u.2) (fun _ _ => trivial) nd trivial hM hl
  have g3 : (M2 ++ [O.dict (kvK rowK F) false]).set M2.length (.dict (kvK rowK (addT F (mg t.1 u.1, t.2 * u.2))) false) = M2 ++ [O.dict (kvK rowK (addT F (mg t.1 u.1, t.2 * u.2))) false] := by simp
  rw [g3] at g2
  have i1 := ix_get kfR (p := t.1) (fun _ _ => trivial) (key_of ht) ha'
  have i2 := ix_get kfR (p := u.1) (fun _ _ => trivial) (key_of hu) hb'
  rw [get_of ga.nd ht] at i1
  rw [get_of gb.nd hu] at i2
  have hpos := gb.pos u hu
  have hbd : (-18446744073709551616 < t.2 ∧ t.2 < 18446744073709551616) ∨ (-18446744073709551616 < u.2 ∧ u.2 < 18446744073709551616) := .inr (by omega)
  have hadd : ∀ m, opAdd (rowK t.1) (rowK u.1) m = some (.tup ((t.1 ++ u.1).map D.int), m) := fun m => by
    simp only [rowK, opAdd, List.length_map, List.map_append]
    rw [if_pos (by omega)]
  have hsort : ∀ m, bSorted [.tup ((t.1 ++ u.1).map D.int)] m = some (.loc m.length, m ++ [.lst ((mg t.1 u.1).map D.int)]) := fun m => by
    rw [bSorted_tup (ints_sortable _) (by simp; omega), sort_ints]
    rfl
  have hbt := fun m => bTuple_end (m := m) (xs := (mg t.1 u.1).map D.int)
  have erow : D.tup ((mg t.1 u.1).map D.int) = rowK (mg t.1 u.1) := rfl
  simp only [erow] at hbt
  have hcl := fun k => kfR.clo k (mg t.1 u.1) trivial
  have hM2 : tyD (M2 ++ [O.dict (kvK rowK F) false]) (.loc M2.length) = "dict" := by simp [tyD]
  have e1 : sSet 5 (xGc (xCallF bTuple (aCons (xCallF bSorted (aCons (xBin opAdd (xVar 3) (xVar 4)) (aNil))) (aNil)))) fe [some (.loc a), some (.loc b), some (.loc M2.length), some (rowK t.1), some (rowK u.1), o5] (M2 ++ [.dict (kvK rowK F) false]) = .next [some (.loc a), some (.loc b), some (.loc M2.length), some (rowK t.1), some (rowK u.1), some (rowK (mg t.1 u.1))] (M2 ++ [.dict (kvK rowK F) false]) := by
    simp only [sSet_ev, xGc_ev, xCallF_ev, aCons_ev, aNil_ev, xBin_ev, xVar_ev, List.getElem?_cons_succ, List.getElem?_cons_zero, Out.bind_ok, hadd, Out.ofO_some, hsort, hbt, gcO_app _ (hcl _), ofE_ok]
    rfl
  generalize rowK (mg t.1 u.1) = X at *
  generalize rowK t.1 = Y at *
  generalize rowK u.1 = Z at *
  refine seq_step e1 ?_
  simp [sSub, hM2, List.lookup, g1, i1, i2, opAdd, opMul, hbd, g2]
def b14o : DenS := sFor (iAny (xVar 1)) (.nm 4) b14i
theorem in14 (fe : FE) (t : List Int × Int) (F : Tm) (M2 : Mem) (la : Bool) (o4 o5 : Option D) (ht : t ∈ A) (ga : Gd A) (h1 : t.1.length ≤ 500) (vb : LS B 2000) (hb : ∀ u ∈ B, u.2 < 2 ^ 64) (nd : (keysT F).Nodup) (hl : F.length + B.length < 1000000)
    (ha : M2[a]? = some (.dict (kvK rowK A) la)) (hbb : M2[b]? = some (.dict (kvK rowK B) false)) (hne : a ≠ b) :
    ∃ o4' o5', b14o fe [some (.loc a), some (.loc b), some (.loc M2.length), some (rowK t.1), o4, o5] (M2 ++ [.dict (kvK rowK F) false]) = .next [some (.loc a), some (.loc b), some (.loc M2.length), some (rowK t.1), o4', o5'] (M2 ++ [.dict (kvK rowK (acc (rowT t B) F)) false]) := by
  have hbl : b < M2.length := (List.getElem?_eq_some_iff.mp hbb).1
  have hlen : (M2.set b (.dict (kvK rowK B) true)).length = M2.length := by simp
  obtain ⟨ρ', g1, o4', o5', rfl⟩ := forGo_acc (b := b14i fe) (p := .nm 4) (w := []) fR (fun u => (mg t.1 u.1, t.2 * u.2)) (fun ρ => ∃ o4 o5, ρ = [some (.loc a), some (.loc b), some (.loc M2.length), some (rowK t.1), o4, o5]) (fun F => M2.set b (.dict (kvK rowK B) true) ++ [.dict (kvK rowK F) false]) (fun _ => rfl) B F [some (.loc a), some (.loc b), some (.loc M2.length), some (rowK t.1), o4, o5] ⟨o4, o5, rfl⟩ (by
    rintro pre u post e ρ ⟨o4, o5, rfl⟩
    have hu : u ∈ B := by rw [e]; simp
    have hpl : pre.length ≤ B.length := by rw [e]; simp
    have hnd := acc_nodup (ts := pre.map fun u => (mg t.1 u.1, t.2 * u.2)) nd
    have hlen2 := acc_len (pre.map fun u => (mg t.1 u.1, t.2 * u.2)) F
    rw [List.length_map] at hlen2
    have := step14 (A := A) (B := B) (a := a) (b := b) fe t u (acc (pre.map fun u => (mg t.1 u.1, t.2 * u.2)) F) (M2.set b (.dict (kvK rowK B) true)) la true ht hu ga vb.gd h1 (vb.sz u hu) (hb u hu) hnd (by omega) o5 (by rw [List.getElem?_set_ne (Ne.symm hne)]; exact ha) (by simp [hbl])
    rw [hlen] at this
    exact ⟨_, _, rfl, this, _, _, rfl⟩)
  refine ⟨o4', o5', ?_⟩
  have hi := iAny_dict (fe := fe) (ρ := [some (.loc a), some (.loc b), some (.loc M2.length), some (rowK t.1), o4, o5]) (i := 1) (m := M2 ++ [.dict (kvK rowK F) false]) (A := B) (K := rowK) rfl (by rw [List.getElem?_append_left hbl]; exact hbb)
  unfold b14o sFor
  rw [hi]
  simp only [ofE_ok, lock_app hbb]
  have : (B.map fun t => rowK t.1) = B.map fR := rfl
  rw [this, g1]
  simp only [unlockS, unlock_app hbb]
  rfl
theorem s14 (n : Nat) (va : LS A 2000) (vb : LS B 2000) (hb : ∀ u ∈ B, u.2 < 2 ^ 64) (hl : (mulT A B).length ≤ 900000) (hA : A.length * B.length ≤ 900000) (ha : M[a]? = some (.dict (kvK rowK A) false)) (hbb : M[b]? = some (.dict (kvK rowK B) false)) (hne : a ≠ b) :
    run ds (n + 1) 14 [.loc a, .loc b] M = .ok (.loc M.length) (M ++ [.dict (kvK rowK (mulT A B)) false]) := by
  have hal : a < M.length := (List.getElem?_eq_some_iff.mp ha).1
  have hlen : (M.set a (.dict (kvK rowK A) true)).length = M.length := by simp
  obtain ⟨ρ', g1, o3, o4, o5, rfl⟩ := forGo_accG (b := b14o (run ds n)) (p := .nm 3) (w := []) fR (fun t => rowT t B) (fun ρ => ∃ o3 o4 o5, ρ = [some (.loc a), some (.loc b), some (.loc M.length), o3, o4, o5]) (fun F => M.set a (.dict (kvK rowK A) true) ++ [.dict (kvK rowK F) false]) (fun _ => rfl) A [] [some (.loc a), some (.loc b), some (.loc M.length), none, none, none] ⟨none, none, none, rfl⟩ (by
    rintro pre t post e ρ ⟨o3, o4, o5, rfl⟩
    have ht : t ∈ A := by rw [e]; simp
    have hpl : pre.length ≤ A.length := by rw [e]; simp
    have hnd : (keysT (acc (pre.flatMap fun t => rowT t B) [])).Nodup := acc_nodup (by simp [keysT])
    have hl2 := acc_len (pre.flatMap fun t => rowT t B) []
    have hl3 : (pre.flatMap fun t => rowT t B).length = pre.length * B.length := pairs_len pre B
    have hl4 : pre.length * B.length ≤ A.length * B.length := Nat.mul_le_mul_right _ hpl
    have hvl := vb.len
    rw [hl3] at hl2
    simp only [List.length_nil, Nat.zero_add] at hl2
    obtain ⟨o4', o5', h1⟩ := in14 (A := A) (B := B) (a := a) (b := b) (run ds n) t (acc (pre.flatMap fun t => rowT t B) []) (M.set a (.dict (kvK rowK A) true)) true o4 o5 ht va.gd (va.sz t ht) vb hb hnd (by omega) (by simp [hal]) (by rw [List.getElem?_set_ne hne]; exact hbb) hne
    rw [hlen] at h1
    exact ⟨_, _, rfl, ⟨_, _, _, rfl⟩, h1⟩)
  have eP : A.flatMap (fun t => rowT t B) = pairsT A B := rfl
  have hm : acc (pairsT A B) [] = mulT A B := rfl
  rw [eP, hm] at g1
  have hi := iAny_dict (fe := run ds n) (ρ := [some (.loc a), some (.loc b), some (.loc M.length), none, none, none]) (i := 0) (m := M ++ [.dict [] false]) (A := A) (K := rowK) rfl (by rw [List.getElem?_append_left hal]; exact ha)
  have hf : sFor (iAny (xVar 0)) (.nm 3) b14o (run ds n) [some (.loc a), some (.loc b), some (.loc M.length), none, none, none] (M ++ [.dict [] false]) = .next [some (.loc a), some (.loc b), some (.loc M.length), o3, o4, o5] (M ++ [.dict (kvK rowK (mulT A B)) false]) := by
    unfold sFor
    rw [hi]
    simp only [ofE_ok, lock_app ha]
    have e1 : (A.map fun t => rowK t.1) = A.map fR := rfl
    have e0 : ([.dict [] false] : Mem) = [.dict (kvK rowK []) false] := rfl
    rw [e1, e0, g1]
    simp only [unlockS, unlock_app ha]
  have ed : d14 = sSeq (sSet 2 (xGc (xEmpty))) (sSeq (sFor (iAny (xVar 0)) (.nm 3) b14o) (sRet (xGc (xVar 2)))) := rfl
  have g0 : ∀ x, gcO M (.ok (.loc M.length) x) = .ok (.loc M.length) x := fun x => by simp [gcO, closed]
  rw [r14, ed]
  simp [xEmpty, g0, hf]
end
end K39
end Mn
set_option Elab.async false
set_option linter.all false
set_option maxRecDepth 100000
set_option maxHeartbeats 1000000
namespace Mn
open PySem
/-- a comprehension over a locked dict -/
theorem xLc_mapL {fe : FE} {ρ : Env} {m m1 ml : Mem} {it : DenI} {p : Pat} {w : Watch} {own : List Nat} {e : Den} {xs : List D} {lk : Option Nat} (E : D → D) (hit : it fe ρ m = .ok ⟨xs, w, lk⟩ m1) (hlk : lockM lk m1 = ml) (hw : watchOk w ml = true) (hl : xs.length ≤ sizeLine)
    (h : ∀ x ∈ xs, ∃ ρ1, bindP p x (wipeE ρ own) = some ρ1 ∧ e fe ρ1 ml = .ok (E x) ml) : xLc it p tYesD e own fe ρ m = .ok (.loc ml.length) (unlockM lk ml ++ [.lst (xs.map E)]) := by
  have := lcGo_pure (t := tYesD fe) (e := e fe) (p := p) (w := w) (ρ := wipeE ρ own) (m := ml) (fun _ => true) E hw xs [] (by simpa using hl) fun x hx => by
    obtain ⟨ρ1, h1, h2⟩ := h x hx
    exact ⟨ρ1, h1, rfl, fun _ => h2⟩
  rw [List.filter_eq_self.mpr (by simp)] at this
  unfold xLc
  rw [hit]
  simp only [Out.bind_ok, hlk, this, unlockL, List.nil_append]
end Mn
namespace Mn
namespace K39
open PySem
theorem intsD_map : ∀ (p : List Int), intsD (p.map D.int) = some p
  | [] => rfl
  | x :: p => by simp [intsD, intsD_map p]
theorem sortSet_ev {fe : FE} {ρ : Env} {i : Nat} {m : Mem} {p : List Int} (hi : ρ[i]? = some (some (rowK p))) (hl : p.length < 64) : xSortSet (xVar i) fe ρ m = .ok (.loc m.length) (m ++ [.lst ((usort p).map D.int)]) := by
  unfold xSortSet
  simp only [xVar_ev, hi, Out.bind_ok, rowK, intsD_map, hl, if_true]
theorem count_ev (p : List Int) (r : Int) (m : Mem) : fCountT (rowK p) [.int r] m = some (.int (p.count r : Int), m) := by
  have e : (p.map D.int).countP (fun z => eqv z (.int r)) = p.count r := by
    rw [List.countP_map, List.count]
    refine List.countP_congr fun x _ => ?_
    simp [eqv]
  have h0 : pureD 12 (.int r) = true := rfl
  simp only [rowK, fCountT, h0, int_pure, and_self, if_true, e]
def e15 : Den := xGc (xTup (aCons (xCallF bTuple (aCons (xLc (iAny (xSortSet (xVar 2))) (.nm 3) (tYesD) (xGc (xTup (aCons (xVar 3) (aCons (xMeth [("list", fCountL), ("tuple", fCountT)] (xVar 2) (aCons (xVar 3) (aNil))) (aNil))))) [3]) (aNil))) (aCons (xBin opIx (xVar 0) (xVar 2)) (aNil))))
section
variable {M : Mem} {a : Nat} {A : Tm}
theorem el15 (fe : FE) (t : List Int × Int) (la : Bool) (o1 o3 : Option D) (ht : t ∈ A) (ga : Gd A) (hs : t.1.length < 64) (ha : M[a]? = some (.dict (kvK rowK A) la)) : e15 fe [some (.loc a), o1, some (rowK t.1), o3] M = .ok (fP t) M := by
  have z := sizeLine_is
  have hal : a < M.length := (List.getElem?_eq_some_iff.mp ha).1
  have hul := usort_len t.1
  have hlc := xLc_map (fe := fe) (ρ := [some (.loc a), o1, some (rowK t.1), o3]) (m := M) (m1 := M ++ [.lst ((usort t.1).map D.int)]) (it := iAny (xSortSet (xVar 2))) (p := .nm 3) (own := [3]) (e := xGc (xTup (aCons (xVar 3) (aCons (xMeth [("list", fCountL), ("tuple", fCountT)] (xVar 2) (aCons (xVar 3) (aNil))) (aNil))))) (fun d => match d with
      | .int r => .tup [.int r, .int (t.1.count r : Int)]
      | d => d) (xs := (usort t.1).map D.int) (w := [(M.length, .lst ((usort t.1).map D.int))])
    (by simp only [iAny_ev, sortSet_ev (fe := fe) (ρ := [some (.loc a), o1, some (rowK t.1), o3]) (i := 2) (m := M) rfl hs, Out.bind_ok]; simp) (by simp [watchOk]) (by simp; omega) fun d hd => by
      obtain ⟨r, _, rfl⟩ := List.mem_map.mp hd
      refine ⟨_, rfl, ?_⟩
      have hc := fun m => count_ev t.1 r m
      have hty : ∀ m, tyD m (rowK t.1) = "tuple" := fun m => rfl
      generalize rowK t.1 = X at *
      simp [wipeE, hty, List.lookup, hc]
  have e1 : ((usort t.1).map D.int).map (fun d => match d with
      | .int r => D.tup [.int r, .int (t.1.count r : Int)]
      | d => d) = (kvK K1 (cntT t.1)).map pairD := by
    simp only [kvK, cntT, List.map_map]
    rfl
  rw [e1] at hlc
  have hbt := bTuple_end (m := M ++ [.lst ((usort t.1).map D.int)]) (xs := (kvK K1 (cntT t.1)).map pairD)
  have e2 : D.tup ((kvK K1 (cntT t.1)).map pairD) = prD t.1 := rfl
  rw [e2] at hbt
  have hix := fun x => ix_get kfR (A := A) (p := t.1) (L := a) (lk := la) (M := M ++ x) (fun _ _ => trivial) (key_of ht) (by rw [List.getElem?_append_left hal]; exact ha)
  rw [get_of ga.nd ht] at hix
  have hcl : closed M.length (fP t) = true := by
    simp only [fP, pairD, closed, closeds, kfP.clo _ _ (ga.srt t ht)]
    rfl
  have e3 : D.tup [prD t.1, .int t.2] = fP t := rfl
  have hg : ∀ o o' : O, gcO M (.ok (fP t) (M ++ [o] ++ [o'])) = .ok (fP t) M := fun o o' => by
    rw [List.append_assoc]
    exact gcO_app _ hcl
  have hix2 : ∀ o o' : O, opIx (.loc a) (rowK t.1) (M ++ [o] ++ [o']) = some (.int t.2, M ++ [o] ++ [o']) := fun o o' => by
    rw [List.append_assoc]
    exact hix _
  generalize hX : prD t.1 = X at *
  generalize hY : rowK t.1 = Y at *
  generalize hK : (kvK K1 (cntT t.1)).map pairD = KK at *
  simp only [e15, xGc_ev, xTup_ev, aCons_ev, aNil_ev, xCallF_ev, hlc, Out.bind_ok, hbt, Out.ofO_some, xBin_ev, xVar_ev, List.getElem?_cons_succ, List.getElem?_cons_zero, hix2, List.length_cons, List.length_nil, Nat.zero_add, Nat.reduceAdd, le_sz2, if_true, e3, hg]
theorem s15 (n : Nat) (ga : Gd A) (hs : ∀ t ∈ A, t.1.length < 64) (hl : A.length ≤ 100000) (ha : M[a]? = some (.dict (kvK rowK A) false)) : run ds (n + 1) 15 [.loc a] M = .ok (shD A) M := by
  have z := sizeLine_is
  have hal : a < M.length := (List.getElem?_eq_some_iff.mp ha).1
  have hml : lockM (some a) M = M.set a (.dict (kvK rowK A) true) := by
    have := lock_app (x := []) ha
    simpa using this
  have hmu : unlockM (some a) (M.set a (.dict (kvK rowK A) true)) = M := by
    have := unlock_app (x := []) ha
    simpa using this
  have hi := iAny_dict (fe := run ds n) (ρ := [some (.loc a), none, none, none]) (i := 0) (m := M) (A := A) (K := rowK) rfl ha
  have hmem : ∀ x ∈ A.map (fun t => rowK t.1), ∃ t ∈ A, x = rowK t.1 := fun x hx => by
    obtain ⟨t, ht, rfl⟩ := List.mem_map.mp hx
    exact ⟨t, ht, rfl⟩
  -- the rows, in order
  let E : D → D := fun d => match d with
    | .tup xs => match intsD xs with
      | some p => fP (p, getT A p)
      | none => d
    | d => d
  have hE : ∀ t ∈ A, E (rowK t.1) = fP t := fun t ht => by
    simp only [E, rowK, intsD_map, get_of ga.nd ht]
  have hlc := xLc_mapL (fe := run ds n) (ρ := [some (.loc a), none, none, none]) (m := M) (m1 := M) (ml := M.set a (.dict (kvK rowK A) true)) (it := iAny (xVar 0)) (p := .nm 2) (own := [2]) (w := []) (e := e15) E hi hml rfl (by simp; omega) fun x hx => by
      obtain ⟨t, ht, rfl⟩ := hmem x hx
      refine ⟨_, rfl, ?_⟩
      rw [hE t ht]
      exact el15 (run ds n) t true none none ht ga (hs t ht) (by simp [hal])
  have e1 : (A.map (fun t => rowK t.1)).map E = A.map fP := by
    rw [List.map_map]
    exact List.map_congr_left fun t ht => hE t ht
  rw [e1, hmu] at hlc
  have hlen : (M.set a (.dict (kvK rowK A) true)).length = M.length := by simp
  rw [hlen] at hlc
  have ed : d15 = sSeq (sSet 1 (xLc (iAny (xVar 0)) (.nm 2) (tYesD) e15 [2])) (sRet (xGc (xCallF bTuple (aCons (xCallF bSorted (aCons (xVar 1) (aNil))) (aNil))))) := rfl
  have hso : sortable (A.map fP) = true := by
    rw [← items_fP]
    exact kvK_sortable kfP (gd_ok ga)
  have hbs := bSorted_end (m := M) hso (by simp; omega)
  have esh : shD A = .tup (sortD (A.map fP)) := by rw [← items_fP]; rfl
  have hcl := fun k => kvK_items_closed (A := A) (n := k) kfP (gd_ok ga)
  rw [items_fP] at hcl
  rw [r15, ed, esh]
  simp [hlc, hbs, hcl]
/-! ### numbers -/
def b19p : DenS := sSet 4 (xGc (xBin opMul (xVar 4) (xBin opIx (xVar 1) (xVar 5))))
theorem pr19 (fe : FE) (ws : List Int) (wl : Nat) (o0 o2 o3 : Option D) (hw : M[wl]? = some (.lst (ws.map D.int))) (hb : ∀ x ∈ ws, 0 ≤ x ∧ x < 2 ^ 64) : ∀ (p : List Int) (c : Int) (o5 : Option D), (∀ r ∈ p, 0 ≤ r ∧ r < (ws.length : Int)) →
    ∃ o5', forGo (b19p fe) (.nm 5) [] (p.map D.int) [o0, some (.loc wl), o2, o3, some (.int c), o5] M = .next [o0, some (.loc wl), o2, o3, some (.int (c * prodN (fun r => ws.getD r.toNat 0) p)), o5'] M
  | [], c, o5, _ => ⟨o5, by simp [forGo, prodN]⟩
  | r :: p, c, o5, hr => by
    obtain ⟨h1, h2⟩ := hr r (by simp)
    obtain ⟨k, rfl⟩ := Int.eq_ofNat_of_zero_le h1
    have hk : k < ws.length := by omega
    have hx := hb _ (List.getElem_mem hk)
    obtain ⟨o5', h3⟩ := pr19 fe ws wl o0 o2 o3 hw hb p (c * ws[k]) (some (.int k)) fun x hx => hr x (by simp [hx])
    refine ⟨o5', ?_⟩
    have hat : L2.atI (ws.map D.int) (k : Int) = some (.int ws[k]) := by rw [atI_nat, List.getElem?_map, List.getElem?_eq_getElem hk]; rfl
    have hb2 : (-18446744073709551616 < c ∧ c < 18446744073709551616) ∨ (-18446744073709551616 < ws[k] ∧ ws[k] < 18446744073709551616) := .inr (by omega)
    have hst : b19p fe [o0, some (.loc wl), o2, o3, some (.int c), some (.int k)] M = .next [o0, some (.loc wl), o2, o3, some (.int (c * ws[k])), some (.int k)] M := by
      simp [b19p, opIx, hw, hat, opMul, hb2]
    have hbi : bindP (.nm 5) (.int (k : Int)) [o0, some (.loc wl), o2, o3, some (.int c), o5] = some [o0, some (.loc wl), o2, o3, some (.int c), some (.int (k : Int))] := rfl
    have e1 : prodN (fun r => ws.getD r.toNat 0) ((k : Int) :: p) = ws[k] * prodN (fun r => ws.getD r.toNat 0) p := by
      simp only [prodN, Int.toNat_natCast]
      rw [List.getD_eq_getElem?_getD, List.getElem?_eq_getElem hk]
      rfl
    rw [e1, ← Int.mul_assoc]
    simp only [List.map_cons, forGo, watchOk_nil, if_true, hbi, hst]
    exact h3
def b19o : DenS := sSeq (sSet 4 (xGc (xBin opIx (xVar 0) (xVar 3)))) (sSeq (sFor (iAny (xVar 3)) (.nm 5) b19p) (sSet 2 (xGc (xBin opAdd (xVar 2) (xVar 4)))))
theorem ou19 (fe : FE) (ws : List Int) (wl : Nat) (la : Bool) (ga : Gd A) (hw : M[wl]? = some (.lst (ws.map D.int))) (hb : ∀ x ∈ ws, 0 ≤ x ∧ x < 2 ^ 64) (ha : M[a]? = some (.dict (kvK rowK A) la)) : ∀ (ts : Tm) (c : Int) (o3 o4 o5 : Option D), (∀ t ∈ ts, t ∈ A ∧ ∀ r ∈ t.1, 0 ≤ r ∧ r < (ws.length : Int)) →
    ∃ o3' o4' o5', forGo (b19o fe) (.nm 3) [] (ts.map fR) [some (.loc a), some (.loc wl), some (.int c), o3, o4, o5] M = .next [some (.loc a), some (.loc wl), some (.int (c + numT (fun r => ws.getD r.toNat 0) ts)), o3', o4', o5'] M
  | [], c, o3, o4, o5, _ => ⟨o3, o4, o5, by simp [forGo, numT]⟩
  | t :: ts, c, o3, o4, o5, h => by
    obtain ⟨ht, hr⟩ := h t (by simp)
    obtain ⟨o5', h1⟩ := pr19 (M := M) fe ws wl (some (.loc a)) (some (.int c)) (some (rowK t.1)) hw hb t.1 t.2 o5 hr
    obtain ⟨o3', o4', o5'', h2⟩ := ou19 fe ws wl la ga hw hb ha ts (c + t.2 * prodN (fun r => ws.getD r.toNat 0) t.1) (some (rowK t.1)) (some (.int (t.2 * prodN (fun r => ws.getD r.toNat 0) t.1))) o5' fun x hx => h x (by simp [hx])
    refine ⟨o3', o4', o5'', ?_⟩
    have hix := ix_get kfR (A := A) (p := t.1) (L := a) (lk := la) (M := M) (fun _ _ => trivial) (key_of ht) ha
    rw [get_of ga.nd ht] at hix
    have hit : iAny (xVar 3) fe [some (.loc a), some (.loc wl), some (.int c), some (rowK t.1), some (.int t.2), o5] M = .ok ⟨t.1.map D.int, [], none⟩ M := by simp [rowK]
    have hf : sFor (iAny (xVar 3)) (.nm 5) b19p fe [some (.loc a), some (.loc wl), some (.int c), some (rowK t.1), some (.int t.2), o5] M = .next [some (.loc a), some (.loc wl), some (.int c), some (rowK t.1), some (.int (t.2 * prodN (fun r => ws.getD r.toNat 0) t.1)), o5'] M := by
      unfold sFor
      rw [hit]
      simp only [ofE_ok, lockM, h1, unlockS, unlockM]
    have hst : b19o fe [some (.loc a), some (.loc wl), some (.int c), some (rowK t.1), o4, o5] M = .next [some (.loc a), some (.loc wl), some (.int (c + t.2 * prodN (fun r => ws.getD r.toNat 0) t.1)), some (rowK t.1), some (.int (t.2 * prodN (fun r => ws.getD r.toNat 0) t.1)), o5'] M := by
      generalize hY : rowK t.1 = Y at *
      simp [b19o, hix, hf, opAdd]
    have hbi : bindP (.nm 3) (fR t) [some (.loc a), some (.loc wl), some (.int c), o3, o4, o5] = some [some (.loc a), some (.loc wl), some (.int c), some (rowK t.1), o4, o5] := rfl
    have e1 : c + numT (fun r => ws.getD r.toNat 0) (t :: ts) = c + t.2 * prodN (fun r => ws.getD r.toNat 0) t.1 + numT (fun r => ws.getD r.toNat 0) ts := by simp only [numT]; omega
    rw [e1]
    simp only [List.map_cons, forGo, watchOk_nil, if_true, hbi, hst]
    exact h2
theorem s19 (n : Nat) (ws : List Int) (wl : Nat) (ga : Gd A) (hw : M[wl]? = some (.lst (ws.map D.int))) (hb : ∀ x ∈ ws, 0 ≤ x ∧ x < 2 ^ 64) (ha : M[a]? = some (.dict (kvK rowK A) false)) (hr : ∀ t ∈ A, ∀ r ∈ t.1, 0 ≤ r ∧ r < (ws.length : Int)) : run ds (n + 1) 19 [.loc a, .loc wl] M = .ok (.int (numT (fun r => ws.getD r.toNat 0) A)) M := by
  have hal : a < M.length := (List.getElem?_eq_some_iff.mp ha).1
  have hne : wl ≠ a := fun e => by rw [e, ha] at hw; cases hw
  have hml : lockM (some a) M = M.set a (.dict (kvK rowK A) true) := by
    have := lock_app (x := []) ha
    simpa using this
  have hmu : unlockM (some a) (M.set a (.dict (kvK rowK A) true)) = M := by
    have := unlock_app (x := []) ha
    simpa using this
  obtain ⟨o3', o4', o5', h1⟩ := ou19 (M := M.set a (.dict (kvK rowK A) true)) (A := A) (a := a) (run ds n) ws wl true ga (by rw [List.getElem?_set_ne (Ne.symm hne)]; exact hw) hb (by simp [hal]) A 0 none none none fun t ht => ⟨ht, hr t ht⟩
  rw [Int.zero_add] at h1
  have hi := iAny_dict (fe := run ds n) (ρ := [some (.loc a), some (.loc wl), some (.int 0), none, none, none]) (i := 0) (m := M) (A := A) (K := rowK) rfl ha
  have hf : sFor (iAny (xVar 0)) (.nm 3) b19o (run ds n) [some (.loc a), some (.loc wl), some (.int 0), none, none, none] M = .next [some (.loc a), some (.loc wl), some (.int (numT (fun r => ws.getD r.toNat 0) A)), o3', o4', o5'] M := by
    unfold sFor
    rw [hi]
    have e1 : (A.map fun t => rowK t.1) = A.map fR := rfl
    simp only [ofE_ok, hml, e1, h1, unlockS, hmu]
  have ed : d19 = sSeq (sSet 2 (xGc (xLit (.int 0)))) (sSeq (sFor (iAny (xVar 0)) (.nm 3) b19o) (sRet (xGc (xVar 2)))) := rfl
  rw [r19, ed]
  simp [hf]
end
end K39
end Mn
set_option Elab.async false
set_option linter.all false
set_option maxRecDepth 100000
set_option maxHeartbeats 1000000
namespace Mn
namespace K39
theorem numT_congr {f g : Int → Int} : ∀ {A : Tm}, (∀ t ∈ A, ∀ r ∈ t.1, f r = g r) → numT f A = numT g A
  | [], _ => rfl
  | t :: A, h => by
    have hp : ∀ p : List Int, (∀ r ∈ p, f r = g r) → prodN f p = prodN g p := by
      intro p
      induction p with
      | nil => intro _; rfl
      | cons r p ih => intro h; simp only [prodN, h r (by simp), ih fun x hx => h x (by simp [hx])]
    simp only [numT, hp t.1 (h t (by simp)), numT_congr (A := A) fun x hx => h x (by simp [hx])]
theorem prodN_bd {f : Int → Int} {b : Nat} (hb : 1 ≤ b) : ∀ {p : List Int}, (∀ r ∈ p, 0 ≤ f r ∧ f r ≤ b) → 0 ≤ prodN f p ∧ prodN f p ≤ (b ^ p.length : Nat)
  | [], _ => by simp [prodN]
  | r :: p, h => by
    obtain ⟨h1, h2⟩ := prodN_bd hb (p := p) fun x hx => h x (by simp [hx])
    obtain ⟨h3, h4⟩ := h r (by simp)
    simp only [prodN, List.length_cons]
    refine ⟨Int.mul_nonneg h3 h1, ?_⟩
    have : f r * prodN f p ≤ (b : Int) * (b ^ p.length : Nat) := Int.mul_le_mul h4 h2 h1 (by omega)
    rw [Nat.pow_succ, Nat.mul_comm]
    rw [Int.natCast_mul]
    exact this
theorem numT_bd {f : Int → Int} {b k c : Nat} (hb : 1 ≤ b) : ∀ {A : Tm}, (∀ t ∈ A, 0 ≤ t.2 ∧ t.2 ≤ c ∧ t.1.length ≤ k ∧ ∀ r ∈ t.1, 0 ≤ f r ∧ f r ≤ b) → 0 ≤ numT f A ∧ numT f A ≤ (A.length * (c * b ^ k) : Nat)
  | [], _ => by simp [numT]
  | t :: A, h => by
    obtain ⟨h1, h2⟩ := numT_bd hb (A := A) fun x hx => h x (by simp [hx])
    obtain ⟨h3, h4, h5, h6⟩ := h t (by simp)
    obtain ⟨h7, h8⟩ := prodN_bd hb h6
    have h9 : ((b ^ t.1.length : Nat) : Int) ≤ (b ^ k : Nat) := by
      exact_mod_cast Nat.pow_le_pow_right hb h5
    have h10 : t.2 * prodN f t.1 ≤ (c : Int) * (b ^ k : Nat) := Int.mul_le_mul h4 (by omega) h7 (by omega)
    have h11 := Int.mul_nonneg h3 h7
    simp only [numT, List.length_cons]
    refine ⟨by omega, ?_⟩
    have e : ((A.length + 1) * (c * b ^ k) : Nat) = A.length * (c * b ^ k) + c * b ^ k := by rw [Nat.succ_mul]
    have e2 : ((c * b ^ k : Nat) : Int) = (c : Int) * (b ^ k : Nat) := Int.natCast_mul _ _
    rw [e]
    omega
/-- one row, once -/
def sgT (r : Int) : Tm := [([r], 1)]
theorem mul_single (p : List Int) (r : Int) : mulT [(p, 1)] (sgT r) = [(mg p [r], 1)] := by
  simp [mulT, pairsT, sgT, acc, addT, putT, getT]
theorem told_single : ∀ (p q : List Int), toldT sgT p [(q, 1)] = [(p.foldl (fun x r => mg x [r]) q, 1)]
  | [], q => rfl
  | r :: p, q => by
    show toldT sgT p (mulT [(q, 1)] (sgT r)) = _
    rw [mul_single, told_single]
    rfl
theorem fold_mg : ∀ (p q : List Int), (p.foldl (fun x r => mg x [r]) q).Perm (q ++ p)
  | [], q => by simp
  | r :: p, q => by
    refine (fold_mg p (mg q [r])).trans ?_
    have h : (mg q [r]).Perm (q ++ [r]) := isort_perm _
    have := h.append_right p
    simpa using this
theorem fold_sorted : ∀ (p q : List Int), q.Pairwise (· ≤ ·) → (p.foldl (fun x r => mg x [r]) q).Pairwise (· ≤ ·)
  | [], _, h => h
  | _ :: p, _, _ => fold_sorted p _ (mg_sorted _ _)
theorem told_sg {p : List Int} (h : p.Pairwise (· ≤ ·)) : toldT sgT p oneT = [(p, 1)] := by
  have e := sorted_eq (fold_sorted p [] .nil) h (by simpa using fold_mg p [])
  show toldT sgT p [([], 1)] = _
  rw [told_single, e]
theorem put_sg {W : Tm} (h : Gd W) : (putAll sgT W).Perm W := by
  have e : termsT sgT W = W := by
    unfold termsT
    have : ∀ V : Tm, (∀ t ∈ V, t.1.Pairwise (· ≤ ·)) → (V.flatMap fun w => (toldT sgT w.1 oneT).map fun t => (t.1, t.2 * w.2)) = V := by
      intro V
      induction V with
      | nil => intro _; rfl
      | cons t V ih =>
        intro h
        rw [List.flatMap_cons, ih fun x hx => h x (by simp [hx]), told_sg (h t (by simp))]
        simp
    exact this W h.srt
  unfold putAll
  rw [e]
  exact acc_self h.nd
theorem terms_len {S : Int → Tm} {k : Nat} : ∀ {W : Tm}, (∀ w ∈ W, (toldT S w.1 oneT).length ≤ k) → (termsT S W).length ≤ W.length * k
  | [], _ => by simp [termsT]
  | w :: W, h => by
    have := terms_len (W := W) fun x hx => h x (by simp [hx])
    have h2 := h w (by simp)
    simp only [termsT, List.flatMap_cons, List.length_append, List.length_map, List.length_cons] at this ⊢
    rw [Nat.succ_mul]
    omega
theorem put_len {S : Int → Tm} {k : Nat} {W : Tm} (h : ∀ w ∈ W, (toldT S w.1 oneT).length ≤ k) : (putAll S W).length ≤ W.length * k := by
  have h1 := acc_len (termsT S W) []
  have h2 := terms_len h
  unfold putAll
  simp at h1
  omega
end K39
end Mn
set_option Elab.async false
set_option linter.all false
set_option maxRecDepth 100000
set_option maxHeartbeats 1000000
namespace Mn
namespace K39
open PySem
theorem perm_map {α β : Type} (f : α → β) : ∀ {l : List β} {W : List α}, l.Perm (W.map f) → ∃ W' : List α, W'.Perm W ∧ l = W'.map f
  | [], W, h => by
    have : W.map f = [] := h.symm.eq_nil
    rw [List.map_eq_nil_iff] at this
    exact ⟨[], by rw [this], rfl⟩
  | x :: l, W, h => by
    have hx : x ∈ W.map f := h.mem_iff.mp (by simp)
    obtain ⟨t, ht, rfl⟩ := List.mem_map.mp hx
    obtain ⟨l1, l2, rfl⟩ := List.append_of_mem ht
    have h2 : l.Perm ((l1 ++ l2).map f) := by
      have e : ((l1 ++ t :: l2).map f).Perm (f t :: (l1 ++ l2).map f) := by
        simp only [List.map_append, List.map_cons]
        exact List.perm_middle
      exact List.Perm.cons_inv (h.trans e)
    obtain ⟨W', h3, rfl⟩ := perm_map f h2
    exact ⟨t :: W', (h3.cons t).trans List.perm_middle.symm, rfl⟩
theorem keys_sortable (W : Tm) : sortable (W.map fR) = true := by
  simp only [sortable, Bool.and_eq_true, List.all_eq_true]
  refine ⟨fun x hx => ?_, fun x hx y hy => ?_⟩
  · obtain ⟨t, _, rfl⟩ := List.mem_map.mp hx
    exact (kfR.pure t.1 trivial).2
  · obtain ⟨t, _, rfl⟩ := List.mem_map.mp hx
    obtain ⟨u, _, rfl⟩ := List.mem_map.mp hy
    exact kfR.cmp t.1 u.1 trivial trivial
/-- the law's sums -/
structure LSum (M : Mem) (ls : List D) (S : Int → Tm) (r : Int) : Prop where
  at_ : ∃ l, L2.atI ls r = some (.loc l) ∧ M[l]? = some (.dict (kvK rowK (S r)) false)
  ls_ : LS (S r) 40
  sz : ∀ t ∈ S r, t.1.length ≤ 20
  bd : ∀ t ∈ S r, t.2 < 2 ^ 64
def b18r : DenS := sSeq (sSet 4 (xGc (xCall 14 (aCons (xVar 4) (aCons (xBin opIx (xVar 1) (xVar 5)) (aNil)))))) (sIf (tGc (tB (xBin opGt (xCallF bLen (aCons (xVar 4) (aNil))) (xLit (.int 2000))))) (sRet (xGc (xLit (.str "far")))) (sNil))
section
variable {M : Mem} {w s : Nat} {ls : List D} {S : Int → Tm} {o0 o2 o3 o6 : Option D}
theorem app_get {α : Type} {m x : List α} {l : Nat} {o : α} (h : m[l]? = some o) : (m ++ x)[l]? = some o := by
  rw [List.getElem?_append_left (List.getElem?_eq_some_iff.mp h).1]; exact h
theorem rows18 (n : Nat) (hs : M[s]? = some (.lst ls)) : ∀ (p : List Int) (A B : Tm) (X : Mem) (T k : Nat) (o5 : Option D), (∀ r ∈ p, LSum M ls S r) → LS A 2000 → (∀ t ∈ A, t.1.length ≤ k) → k + 20 * p.length ≤ 500 → toldO S p A = some B → (M ++ X)[T]? = some (.dict (kvK rowK A) false) → M.length ≤ T →
    ∃ X' T' o5', forGo (b18r (run ds (n + 1))) (.nm 5) [] (p.map D.int) [o0, some (.loc s), o2, o3, some (.loc T), o5, o6] (M ++ X) = .next [o0, some (.loc s), o2, o3, some (.loc T'), o5', o6] (M ++ (X ++ X')) ∧ (M ++ (X ++ X'))[T']? = some (.dict (kvK rowK B) false) ∧ T ≤ T' ∧ ∀ o ∈ X', closedO 0 o = true
  | [], A, B, X, T, k, o5, _, _, _, _, e, hT, hle => by
    simp only [toldO, Option.some.injEq] at e
    subst e
    exact ⟨[], T, o5, by simp [forGo], by simpa using hT, Nat.le_refl _, by simp⟩
  | r :: p, A, B, X, T, k, o5, h, hA, hk, hkl, e, hT, hle => by
    simp only [toldO] at e
    split at e
    · rename_i c
      have hr := h r (by simp)
      obtain ⟨l, hat, hl⟩ := hr.at_
      have hll : l < M.length := (List.getElem?_eq_some_iff.mp hl).1
      have hlen : A.length * (S r).length ≤ 2000 * 40 := Nat.mul_le_mul hA.len hr.ls_.len
      simp only [List.length_cons] at hkl
      have h14 := s14 (M := M ++ X) (a := T) (b := l) (A := A) (B := S r) n hA ⟨hr.ls_.gd, Nat.le_trans hr.ls_.len (by omega), hr.ls_.sz⟩ hr.bd (by omega) (by omega) hT (app_get hl) (by omega)
      have hgd : Gd (mulT A (S r)) := mul_good hA.gd.pos hr.ls_.gd.pos
      have hsz : ∀ t ∈ mulT A (S r), t.1.length ≤ k + 20 := acc_keys_of (P := fun p => p.length ≤ k + 20) fun t ht => by
        obtain ⟨a, h1, h2⟩ := List.mem_flatMap.mp ht
        obtain ⟨b, h3, rfl⟩ := List.mem_map.mp h2
        rw [mg, isort_len, List.length_append]
        have := hk a h1
        have := hr.sz b h3
        omega
      have hend : ((M ++ X) ++ [O.dict (kvK rowK (mulT A (S r))) false])[(M ++ X).length]? = some (.dict (kvK rowK (mulT A (S r))) false) := by simp
      have eapp : (M ++ X) ++ [O.dict (kvK rowK (mulT A (S r))) false] = M ++ (X ++ [O.dict (kvK rowK (mulT A (S r))) false]) := by simp
      obtain ⟨X', T', o5', g1, g2, g3, g4⟩ := rows18 n hs p (mulT A (S r)) B (X ++ [.dict (kvK rowK (mulT A (S r))) false]) (M ++ X).length (k + 20) (some (.int r)) (fun x hx => h x (by simp [hx])) ⟨hgd, c, fun t ht => Nat.le_trans (hsz t ht) (by omega)⟩ hsz (by omega) e (by rw [← eapp]; exact hend) (by simp)
      refine ⟨[.dict (kvK rowK (mulT A (S r))) false] ++ X', T', o5', ?_, by rw [← List.append_assoc X]; exact g2, by have := (List.getElem?_eq_some_iff.mp hT).1; omega, fun o ho => by
        rcases List.mem_append.mp ho with ho | ho
        · rw [List.mem_singleton.mp ho]; exact kvK_closedO kfR (fun _ _ => trivial)
        · exact g4 o ho⟩
      have c1 : ¬ (2000 : Int) < (mulT A (S r)).length := by omega
      have hg0 : gcO (M ++ X) (.ok (.loc (M ++ X).length) ((M ++ X) ++ [O.dict (kvK rowK (mulT A (S r))) false])) = .ok (.loc (M ++ X).length) ((M ++ X) ++ [O.dict (kvK rowK (mulT A (S r))) false]) := by simp [gcO, closed]
      have hsM : (M ++ X)[s]? = some (.lst ls) := app_get hs
      have hst : b18r (run ds (n + 1)) [o0, some (.loc s), o2, o3, some (.loc T), some (.int r), o6] (M ++ X) = .next [o0, some (.loc s), o2, o3, some (.loc (M ++ X).length), some (.int r), o6] ((M ++ X) ++ [O.dict (kvK rowK (mulT A (S r))) false]) := by
        generalize M ++ X = Y at *
        simp [b18r, opIx, hsM, hat, h14, hg0, bLen, kvK_len, opGt, c1]
      have hbi : bindP (.nm 5) (.int r) [o0, some (.loc s), o2, o3, some (.loc T), o5, o6] = some [o0, some (.loc s), o2, o3, some (.loc T), some (.int r), o6] := rfl
      simp only [List.map_cons, forGo, watchOk_nil, if_true, hbi, hst]
      rw [eapp]
      show forGo _ _ _ _ _ _ = _
      rw [g1]
      simp
    · cases e
def b18a : DenS := sSub (xVar 2) (xGc (xVar 6)) (xGc (xBin opAdd (xMeth [("dict", fGet)] (xVar 2) (aCons (xVar 6) (aCons (xLit (.int 0)) (aNil)))) (xBin opMul (xBin opIx (xVar 4) (xVar 6)) (xBin opIx (xVar 0) (xVar 3)))))
theorem add18 (fe : FE) (wt : List Int × Int) (W T F : Tm) (KL : List D) (E : Mem) (j : Nat) (o1 o5 : Option D) (hw : M[w]? = some (.dict (kvK rowK W) false)) (gw : Gd W) (hwt : wt ∈ W) (hwb : wt.2 < 2 ^ 64) (gt : Gd T) (hE : E[j]? = some (.dict (kvK rowK T) false)) (nd : (keysT F).Nodup) (hl : F.length + T.length < 1000000) :
    ∃ o6', sFor (iAny (xVar 4)) (.nm 6) b18a fe [some (.loc w), o1, some (.loc M.length), some (rowK wt.1), some (.loc (M.length + 2 + j)), o5, o6] (M ++ ([O.dict (kvK rowK F) false, O.lst KL] ++ E)) = .next [some (.loc w), o1, some (.loc M.length), some (rowK wt.1), some (.loc (M.length + 2 + j)), o5, o6'] (M ++ ([O.dict (kvK rowK (acc (scT wt.2 T) F)) false, O.lst KL] ++ E)) := by
  have hjl : j < E.length := (List.getElem?_eq_some_iff.mp hE).1
  have hwl : w < M.length := (List.getElem?_eq_some_iff.mp hw).1
  have hEt : ∀ (o : O) (F : Tm), (M ++ ([O.dict (kvK rowK F) false, O.lst KL] ++ E.set j o))[M.length + 2 + j]? = some o := fun o F => by
    rw [← List.append_assoc, List.getElem?_append_right (by simp)]
    have : M.length + 2 + j - (M ++ [O.dict (kvK rowK F) false, O.lst KL]).length = j := by simp
    rw [this]
    simp [hjl]
  have hset : ∀ (o : O) (F : Tm) (E : Mem), j < E.length → (M ++ ([O.dict (kvK rowK F) false, O.lst KL] ++ E)).set (M.length + 2 + j) o = M ++ ([O.dict (kvK rowK F) false, O.lst KL] ++ E.set j o) := fun o F E hj => by
    rw [← List.append_assoc, List.set_append_right _ _ (by simp)]
    have : M.length + 2 + j - (M ++ [O.dict (kvK rowK F) false, O.lst KL]).length = j := by simp
    rw [this, List.append_assoc]
  have hE0 : ∀ F : Tm, (M ++ ([O.dict (kvK rowK F) false, O.lst KL] ++ E))[M.length + 2 + j]? = some (.dict (kvK rowK T) false) := fun F => by
    have := hEt (.dict (kvK rowK T) false) F
    rwa [set_self hE] at this
  have hMt : ∀ (F : Tm) (E : Mem), (M ++ ([O.dict (kvK rowK F) false, O.lst KL] ++ E))[M.length]? = some (.dict (kvK rowK F) false) := fun F E => by
    rw [List.getElem?_append_right (by omega)]; simp
  have hMs : ∀ (F F' : Tm) (E : Mem), (M ++ ([O.dict (kvK rowK F) false, O.lst KL] ++ E)).set M.length (.dict (kvK rowK F') false) = M ++ ([O.dict (kvK rowK F') false, O.lst KL] ++ E) := fun F F' E => by
    rw [List.set_append_right _ _ (by omega)]; simp
  obtain ⟨ρ', g1, o6', rfl⟩ := forGo_acc (b := b18a fe) (p := .nm 6) (w := []) fR (fun t => (t.1, t.2 * wt.2)) (fun ρ => ∃ o6, ρ = [some (.loc w), o1, some (.loc M.length), some (rowK wt.1), some (.loc (M.length + 2 + j)), o5, o6]) (fun F => M ++ ([O.dict (kvK rowK F) false, O.lst KL] ++ E.set j (O.dict (kvK rowK T) true))) (fun _ => rfl) T F [some (.loc w), o1, some (.loc M.length), some (rowK wt.1), some (.loc (M.length + 2 + j)), o5, o6] ⟨o6, rfl⟩ (by
    rintro pre u post e ρ ⟨o6, rfl⟩
    have hu : u ∈ T := by rw [e]; simp
    have hpl : pre.length ≤ T.length := by rw [e]; simp
    have hnd := acc_nodup (ts := pre.map fun t => (t.1, t.2 * wt.2)) nd
    have hlen2 := acc_len (pre.map fun t => (t.1, t.2 * wt.2)) F
    rw [List.length_map] at hlen2
    generalize acc (pre.map fun t => (t.1, t.2 * wt.2)) F = R at *
    have hM := hMt R (E.set j (O.dict (kvK rowK T) true))
    have g1 := upd_get kfR (A := R) (p := u.1) (fun _ _ => trivial) trivial hM
    have g2 := upd_set kfR (A := R) (p := u.1) (c := u.2 * wt.2) (fun _ _ => trivial) hnd trivial hM (by omega)
    rw [hMs] at g2
    have i1 := ix_get kfR (p := u.1) (fun _ _ => trivial) (key_of hu) (hEt (.dict (kvK rowK T) true) R)
    rw [get_of gt.nd hu] at i1
    have i2 := ix_get kfR (p := wt.1) (fun _ _ => trivial) (key_of hwt) (app_get (x := [O.dict (kvK rowK R) false, O.lst KL] ++ E.set j (O.dict (kvK rowK T) true)) hw)
    rw [get_of gw.nd hwt] at i2
    have hpos := gw.pos wt hwt
    have hbd : (-18446744073709551616 < u.2 ∧ u.2 < 18446744073709551616) ∨ (-18446744073709551616 < wt.2 ∧ wt.2 < 18446744073709551616) := .inr (by omega)
    have hM2 : tyD (M ++ ([O.dict (kvK rowK R) false, O.lst KL] ++ E.set j (O.dict (kvK rowK T) true))) (.loc M.length) = "dict" := by simp only [tyD, hM]
    refine ⟨_, [some (.loc w), o1, some (.loc M.length), some (rowK wt.1), some (.loc (M.length + 2 + j)), o5, some (rowK u.1)], rfl, ?_, _, rfl⟩
    have hfr : fR u = rowK u.1 := rfl
    generalize rowK u.1 = Y at *
    generalize rowK wt.1 = Z at *
    generalize M ++ ([O.dict (kvK rowK R) false, O.lst KL] ++ E.set j (O.dict (kvK rowK T) true)) = MM at *
    generalize M ++ ([O.dict (kvK rowK (addT R (u.1, u.2 * wt.2))) false, O.lst KL] ++ E.set j (O.dict (kvK rowK T) true)) = MM2 at *
    simp [b18a, sSub, hM2, List.lookup, hfr, g1, i1, i2, opAdd, opMul, hbd, g2])
  refine ⟨o6', ?_⟩
  have hi := iAny_dict (fe := fe) (ρ := [some (.loc w), o1, some (.loc M.length), some (rowK wt.1), some (.loc (M.length + 2 + j)), o5, o6]) (i := 4) (A := T) (K := rowK) rfl (hE0 F)
  have hml : lockM (some (M.length + 2 + j)) (M ++ ([O.dict (kvK rowK F) false, O.lst KL] ++ E)) = M ++ ([O.dict (kvK rowK F) false, O.lst KL] ++ E.set j (O.dict (kvK rowK T) true)) := by
    simp only [lockM, hE0 F]
    exact hset _ F E hjl
  have hmu : ∀ F : Tm, unlockM (some (M.length + 2 + j)) (M ++ ([O.dict (kvK rowK F) false, O.lst KL] ++ E.set j (O.dict (kvK rowK T) true))) = M ++ ([O.dict (kvK rowK F) false, O.lst KL] ++ E) := fun F => by
    simp only [unlockM, hEt]
    rw [hset _ F (E.set j (O.dict (kvK rowK T) true)) (by simpa using hjl), List.set_set, set_self hE]
  unfold sFor
  rw [hi]
  have e1 : (T.map fun t => rowK t.1) = T.map fR := rfl
  simp only [ofE_ok, hml, e1, g1, unlockS, hmu]
  rfl
end
end K39
end Mn
set_option Elab.async false
set_option linter.all false
set_option maxRecDepth 100000
set_option maxHeartbeats 1000000
namespace Mn
namespace K39
open PySem
def b18o : DenS := sSeq (sSet 4 (xGc (xDict [(xTup (aNil), xLit (.int 1))]))) (sSeq (sFor (iAny (xVar 3)) (.nm 5) b18r) (sSeq (sFor (iAny (xVar 4)) (.nm 6) b18a) (sIf (tGc (tB (xBin opGt (xCallF bLen (aCons (xVar 2) (aNil))) (xLit (.int 2000))))) (sRet (xGc (xLit (.str "far")))) (sNil))))
theorem one_dict (fe : FE) (ρ : Env) (m : Mem) : xDict [(xTup (aNil), xLit (.int 1))] fe ρ m = .ok (.loc m.length) (m ++ [.dict (kvK rowK oneT) false]) := by
  have e : dictP [] [(D.tup [], D.int 1)] = some (kvK rowK oneT) := by decide +kernel
  have z : (0 ≤ sizeLine) = True := by simp
  simp only [xDict, kvD, xTup_ev, aNil_ev, Out.bind_ok, List.length_nil, z, if_true, xLit_ev, e]
section
variable {M : Mem} {w s : Nat} {ls : List D} {S : Int → Tm} {W : Tm}
theorem turn18 (n : Nat) (wt : List Int × Int) (F T : Tm) (KL : List D) (E : Mem) (o4 o5 o6 : Option D) (hw : M[w]? = some (.dict (kvK rowK W) false)) (gw : Gd W) (hwt : wt ∈ W) (hwb : wt.2 < 2 ^ 64) (hsz : wt.1.length ≤ 20) (hs : M[s]? = some (.lst ls)) (hS : ∀ r ∈ wt.1, LSum M ls S r) (hT : toldO S wt.1 oneT = some T) (hTl : T.length ≤ 2000) (nd : (keysT F).Nodup) (hl : (acc (scT wt.2 T) F).length ≤ 2000) (hEc : ∀ o ∈ E, closedO 0 o = true) :
    ∃ E' o4' o5' o6', (∀ o ∈ E', closedO 0 o = true) ∧ b18o (run ds (n + 1)) [some (.loc w), some (.loc s), some (.loc M.length), some (rowK wt.1), o4, o5, o6] (M ++ ([O.dict (kvK rowK F) false, O.lst KL] ++ E)) = .next [some (.loc w), some (.loc s), some (.loc M.length), some (rowK wt.1), o4', o5', o6'] (M ++ ([O.dict (kvK rowK (acc (scT wt.2 T) F)) false, O.lst KL] ++ E')) := by
  have gT : Gd T := by rw [toldO_is hT]; exact told_good (fun r hr => (hS r hr).ls_.gd.pos) one_good
  have hend : ((M ++ ([O.dict (kvK rowK F) false, O.lst KL] ++ E)) ++ [O.dict (kvK rowK oneT) false])[(M ++ ([O.dict (kvK rowK F) false, O.lst KL] ++ E)).length]? = some (.dict (kvK rowK oneT) false) := by simp
  have eapp : (M ++ ([O.dict (kvK rowK F) false, O.lst KL] ++ E)) ++ [O.dict (kvK rowK oneT) false] = M ++ ([O.dict (kvK rowK F) false, O.lst KL] ++ (E ++ [O.dict (kvK rowK oneT) false])) := by simp
  have hlen : (M ++ ([O.dict (kvK rowK F) false, O.lst KL] ++ E)).length = M.length + 2 + E.length := by simp; omega
  rw [hlen] at hend
  obtain ⟨X', T', o5', g1, g2, g3, gX⟩ := rows18 (M := M) (s := s) (ls := ls) (S := S) (o0 := some (.loc w)) (o2 := some (.loc M.length)) (o3 := some (rowK wt.1)) (o6 := o6) n hs wt.1 oneT T ([O.dict (kvK rowK F) false, O.lst KL] ++ (E ++ [O.dict (kvK rowK oneT) false])) (M.length + 2 + E.length) 0 o5 hS ⟨one_good, by simp [oneT], by simp [oneT]⟩ (by simp [oneT]) (by omega) hT (by rw [← eapp]; exact hend) (by omega)
  obtain ⟨j, rfl⟩ : ∃ j, T' = M.length + 2 + j := ⟨T' - (M.length + 2), by omega⟩
  have e2 : [O.dict (kvK rowK F) false, O.lst KL] ++ (E ++ [O.dict (kvK rowK oneT) false]) ++ X' = [O.dict (kvK rowK F) false, O.lst KL] ++ ((E ++ [O.dict (kvK rowK oneT) false]) ++ X') := by simp
  rw [e2] at g1 g2
  have hE : ((E ++ [O.dict (kvK rowK oneT) false]) ++ X')[j]? = some (.dict (kvK rowK T) false) := by
    rw [← List.append_assoc M, List.getElem?_append_right (by simp)] at g2
    have : M.length + 2 + j - (M ++ [O.dict (kvK rowK F) false, O.lst KL]).length = j := by simp
    rw [this] at g2
    exact g2
  have hm := acc_mono (scT wt.2 T) F
  obtain ⟨o6', g4⟩ := add18 (M := M) (w := w) (o6 := o6) (run ds (n + 1)) wt W T F KL ((E ++ [O.dict (kvK rowK oneT) false]) ++ X') j (some (.loc s)) o5' hw gw hwt hwb gT hE nd (by omega)
  refine ⟨(E ++ [O.dict (kvK rowK oneT) false]) ++ X', some (.loc (M.length + 2 + j)), o5', o6', fun o ho => ?_, ?_⟩
  · rcases List.mem_append.mp ho with ho | ho
    · rcases List.mem_append.mp ho with ho | ho
      · exact hEc o ho
      · rw [List.mem_singleton.mp ho]; exact kvK_closedO kfR (fun _ _ => trivial)
    · exact gX o ho
  have hg0 : ∀ Y : Mem, gcO Y (.ok (.loc Y.length) (Y ++ [O.dict (kvK rowK oneT) false])) = .ok (.loc Y.length) (Y ++ [O.dict (kvK rowK oneT) false]) := fun Y => by simp [gcO, closed]
  have e1 : sSet 4 (xGc (xDict [(xTup (aNil), xLit (.int 1))])) (run ds (n + 1)) [some (.loc w), some (.loc s), some (.loc M.length), some (rowK wt.1), o4, o5, o6] (M ++ ([O.dict (kvK rowK F) false, O.lst KL] ++ E)) = .next [some (.loc w), some (.loc s), some (.loc M.length), some (rowK wt.1), some (.loc (M.length + 2 + E.length)), o5, o6] (M ++ ([O.dict (kvK rowK F) false, O.lst KL] ++ (E ++ [O.dict (kvK rowK oneT) false]))) := by
    rw [sSet_ev, xGc_ev, one_dict, hg0, ofE_ok, hlen, eapp]
    rfl
  have e3 : sFor (iAny (xVar 3)) (.nm 5) b18r (run ds (n + 1)) [some (.loc w), some (.loc s), some (.loc M.length), some (rowK wt.1), some (.loc (M.length + 2 + E.length)), o5, o6] (M ++ ([O.dict (kvK rowK F) false, O.lst KL] ++ (E ++ [O.dict (kvK rowK oneT) false]))) = .next [some (.loc w), some (.loc s), some (.loc M.length), some (rowK wt.1), some (.loc (M.length + 2 + j)), o5', o6] (M ++ ([O.dict (kvK rowK F) false, O.lst KL] ++ ((E ++ [O.dict (kvK rowK oneT) false]) ++ X'))) := by
    unfold sFor
    have : iAny (xVar 3) (run ds (n + 1)) [some (.loc w), some (.loc s), some (.loc M.length), some (rowK wt.1), some (.loc (M.length + 2 + E.length)), o5, o6] (M ++ ([O.dict (kvK rowK F) false, O.lst KL] ++ (E ++ [O.dict (kvK rowK oneT) false]))) = .ok ⟨wt.1.map D.int, [], none⟩ (M ++ ([O.dict (kvK rowK F) false, O.lst KL] ++ (E ++ [O.dict (kvK rowK oneT) false]))) := by simp [rowK]
    rw [this]
    simp only [ofE_ok, lockM, g1, unlockS, unlockM]
  refine seq_step e1 (seq_step e3 (seq_step g4 ?_))
  have hMt : (M ++ ([O.dict (kvK rowK (acc (scT wt.2 T) F)) false, O.lst KL] ++ ((E ++ [O.dict (kvK rowK oneT) false]) ++ X')))[M.length]? = some (.dict (kvK rowK (acc (scT wt.2 T) F)) false) := by
    rw [List.getElem?_append_right (by omega)]; simp
  have c1 : ¬ (2000 : Int) < (acc (scT wt.2 T) F).length := by omega
  generalize M ++ ([O.dict (kvK rowK (acc (scT wt.2 T) F)) false, O.lst KL] ++ ((E ++ [O.dict (kvK rowK oneT) false]) ++ X')) = Y at *
  simp [bLen, hMt, kvK_len, opGt, c1]
theorem loop18 (n : Nat) (KL : List D) (hw : M[w]? = some (.dict (kvK rowK W) false)) (gw : Gd W) (hwb : ∀ t ∈ W, t.2 < 2 ^ 64 ∧ t.1.length ≤ 20) (hs : M[s]? = some (.lst ls)) (hS : ∀ t ∈ W, ∀ r ∈ t.1, LSum M ls S r) (hT : ∀ t ∈ W, (toldO S t.1 oneT).isSome = true ∧ (toldT S t.1 oneT).length ≤ 2000) :
    ∀ (ts F : Tm) (E : Mem) (o3 o4 o5 o6 : Option D), (∀ t ∈ ts, t ∈ W) → (keysT F).Nodup → (acc (ts.flatMap fun t => scT t.2 (toldT S t.1 oneT)) F).length ≤ 2000 → (∀ o ∈ E, closedO 0 o = true) →
    ∃ E' ρ', (∀ o ∈ E', closedO 0 o = true) ∧ ρ'[2]? = some (some (.loc M.length)) ∧ forGo (b18o (run ds (n + 1))) (.nm 3) [(M.length + 1, .lst KL)] (ts.map fR) [some (.loc w), some (.loc s), some (.loc M.length), o3, o4, o5, o6] (M ++ ([O.dict (kvK rowK F) false, O.lst KL] ++ E)) = .next ρ' (M ++ ([O.dict (kvK rowK (acc (ts.flatMap fun t => scT t.2 (toldT S t.1 oneT)) F)) false, O.lst KL] ++ E'))
  | [], F, E, o3, o4, o5, o6, _, _, _, hEc => by
    refine ⟨E, [some (.loc w), some (.loc s), some (.loc M.length), o3, o4, o5, o6], hEc, rfl, ?_⟩
    have hwt : watchOk [(M.length + 1, .lst KL)] (M ++ ([O.dict (kvK rowK F) false, O.lst KL] ++ E)) = true := by
      simp only [watchOk, List.all_cons, List.all_nil, Bool.and_true, decide_eq_true_eq]
      rw [List.getElem?_append_right (by omega)]; simp
    simp only [List.map_nil, forGo, hwt, if_true, List.flatMap_nil]
    rfl
  | t :: ts, F, E, o3, o4, o5, o6, h, nd, hl, hEc => by
    have ht := h t (by simp)
    obtain ⟨T, eT⟩ := Option.isSome_iff_exists.mp (hT t ht).1
    have hTT := toldO_is eT
    rw [List.flatMap_cons, acc_app] at hl ⊢
    have hm := acc_mono (ts.flatMap fun t => scT t.2 (toldT S t.1 oneT)) (acc (scT t.2 (toldT S t.1 oneT)) F)
    obtain ⟨E1, o4', o5', o6', hE1, g1⟩ := turn18 (M := M) (w := w) (s := s) (ls := ls) (S := S) (W := W) n t F T KL E o4 o5 o6 hw gw ht (hwb t ht).1 (hwb t ht).2 hs (hS t ht) eT (by rw [hTT]; exact (hT t ht).2) nd (by rw [hTT]; omega) hEc
    rw [hTT] at g1
    obtain ⟨E', ρ', hE', e2, g2⟩ := loop18 n KL hw gw hwb hs hS hT ts (acc (scT t.2 (toldT S t.1 oneT)) F) E1 (some (rowK t.1)) o4' o5' o6' (fun x hx => h x (by simp [hx])) (acc_nodup nd) hl hE1
    refine ⟨E', ρ', hE', e2, ?_⟩
    have hwt : watchOk [(M.length + 1, .lst KL)] (M ++ ([O.dict (kvK rowK F) false, O.lst KL] ++ E)) = true := by
      simp only [watchOk, List.all_cons, List.all_nil, Bool.and_true, decide_eq_true_eq]
      rw [List.getElem?_append_right (by omega)]; simp
    have hbi : bindP (.nm 3) (fR t) [some (.loc w), some (.loc s), some (.loc M.length), o3, o4, o5, o6] = some [some (.loc w), some (.loc s), some (.loc M.length), some (rowK t.1), o4, o5, o6] := rfl
    simp only [List.map_cons, forGo, hwt, if_true, hbi, g1]
    exact g2
theorem s18 (n : Nat) (hw : M[w]? = some (.dict (kvK rowK W) false)) (gw : Gd W) (hwl : W.length ≤ 1000) (hwb : ∀ t ∈ W, t.2 < 2 ^ 64 ∧ t.1.length ≤ 20) (hs : M[s]? = some (.lst ls)) (hS : ∀ t ∈ W, ∀ r ∈ t.1, LSum M ls S r) (hT : ∀ t ∈ W, (toldO S t.1 oneT).isSome = true ∧ (toldT S t.1 oneT).length ≤ 2000) (hput : (putAll S W).length ≤ 2000) :
    ∃ P E, P.Perm (putAll S W) ∧ (∀ o ∈ E, closedO 0 o = true) ∧ run ds (n + 2) 18 [.loc w, .loc s] M = .ok (.loc M.length) (M ++ (O.dict (kvK rowK P) false :: E)) := by
  have z := sizeLine_is
  obtain ⟨W', hp, hW'⟩ := perm_map fR (sort_perm (W.map fR))
  have hperm : (W'.flatMap fun t => scT t.2 (toldT S t.1 oneT)).Perm (termsT S W) := List.Perm.flatMap_right _ hp
  have hpa : (acc (W'.flatMap fun t => scT t.2 (toldT S t.1 oneT)) []).Perm (putAll S W) := acc_perm hperm
  obtain ⟨E', ρ', hE', e2, g1⟩ := loop18 (M := M) (w := w) (s := s) (ls := ls) (S := S) (W := W) n (W'.map fR) hw gw hwb hs hS hT W' [] [] none none none none (fun t ht => hp.mem_iff.mp ht) (by simp [keysT]) (by rw [hpa.length_eq]; exact hput) (by simp)
  refine ⟨_, _, hpa, fun o ho => ?_, (?_ : _ = Out.ok (D.loc M.length) (M ++ (O.dict (kvK rowK (acc (W'.flatMap fun t => scT t.2 (toldT S t.1 oneT)) [])) false :: O.lst (W'.map fR) :: E')))⟩
  · rcases List.mem_cons.mp ho with rfl | ho
    · simp only [closedO, closeds_all, List.all_eq_true]
      intro d hd
      obtain ⟨t, _, rfl⟩ := List.mem_map.mp hd
      exact kfR.clo 0 t.1 trivial
    · exact hE' o ho
  have hwl2 : w < M.length := (List.getElem?_eq_some_iff.mp hw).1
  have hbs : bSorted [.loc w] (M ++ [.dict [] false]) = some (.loc (M.length + 1), M ++ ([O.dict (kvK rowK []) false, O.lst (W'.map fR)] ++ [])) := by
    have e3 : (kvK rowK W).map (·.1) = W.map fR := by simp [kvK, fR]
    simp only [bSorted, seqD, app_get hw, kvK_len]
    rw [if_pos (by omega), e3]
    simp only [keys_sortable, List.length_map, true_and]
    rw [if_pos (by omega), hW']
    simp [kvK]
  have hi : iAny (xCallF bSorted (aCons (xVar 0) (aNil))) (run ds (n + 1)) [some (.loc w), some (.loc s), some (.loc M.length), none, none, none, none] (M ++ [.dict [] false]) = .ok ⟨W'.map fR, [(M.length + 1, .lst (W'.map fR))], none⟩ (M ++ ([O.dict (kvK rowK []) false, O.lst (W'.map fR)] ++ [])) := by
    have hL : (M ++ ([O.dict (kvK rowK []) false, O.lst (W'.map fR)] ++ []))[M.length + 1]? = some (.lst (W'.map fR)) := by
      rw [List.getElem?_append_right (by omega)]; simp
    simp only [iAny_ev, xCallF_ev, aCons_ev, xVar_ev, List.getElem?_cons_zero, aNil_ev, Out.bind_ok, hbs, Out.ofO_some, hL]
  have hf : sFor (iAny (xCallF bSorted (aCons (xVar 0) (aNil)))) (.nm 3) b18o (run ds (n + 1)) [some (.loc w), some (.loc s), some (.loc M.length), none, none, none, none] (M ++ [.dict [] false]) = .next ρ' (M ++ ([O.dict (kvK rowK (acc (W'.flatMap fun t => scT t.2 (toldT S t.1 oneT)) [])) false, O.lst (W'.map fR)] ++ E')) := by
    unfold sFor
    rw [hi]
    simp only [ofE_ok, lockM, g1, unlockS, unlockM]
  have g0 : ∀ x, gcO M (.ok (.loc M.length) x) = .ok (.loc M.length) x := fun x => by simp [gcO, closed]
  have ed : d18 = sSeq (sSet 2 (xGc (xEmpty))) (sSeq (sFor (iAny (xCallF bSorted (aCons (xVar 0) (aNil)))) (.nm 3) b18o) (sRet (xGc (xVar 2)))) := rfl
  have h1 : sSet 2 (xGc xEmpty) (run ds (n + 1)) [some (.loc w), some (.loc s), none, none, none, none, none] M = .next [some (.loc w), some (.loc s), some (.loc M.length), none, none, none, none] (M ++ [.dict [] false]) := by simp [xEmpty, g0]
  have h3 : sRet (xGc (xVar 2)) (run ds (n + 1)) ρ' (M ++ ([O.dict (kvK rowK (acc (W'.flatMap fun t => scT t.2 (toldT S t.1 oneT)) [])) false, O.lst (W'.map fR)] ++ E')) = .ret (.loc M.length) (M ++ ([O.dict (kvK rowK (acc (W'.flatMap fun t => scT t.2 (toldT S t.1 oneT)) [])) false, O.lst (W'.map fR)] ++ E')) := by
    simp only [sRet_ev, xGc_ev, xVar_ev, e2, gcO_same, ofE_ok]
  have hall := seq_step h1 (seq_step hf h3)
  rw [← ed] at hall
  rw [r18]
  show gcO M (bodyD 2 7 d18 (run ds (n + 1)) [.loc w, .loc s] M) = _
  rw [bodyD_ev (by rfl)]
  have hall' : d18 (run ds (n + 1)) (List.map some [D.loc w, D.loc s] ++ List.replicate (7 - 2) none) M = _ := hall
  rw [hall']
  exact g0 _
end
end K39
end Mn
set_option Elab.async false
set_option linter.all false
set_option maxRecDepth 100000
set_option maxHeartbeats 1000000
namespace Mn
namespace K39
open PySem
mutual
/-- plain data, not too wide -/
def smB : Nat → D → Bool
  | _, .non => true
  | _, .int _ => true
  | _, .str s => PyData.strOk s
  | k + 1, .tup xs => decide (xs.length ≤ 1000) && smBs k xs
  | _, _ => false
def smBs : Nat → List D → Bool
  | _, [] => true
  | k, x :: xs => smB k x && smBs k xs
end
theorem smBs_all (k : Nat) : ∀ xs : List D, smBs k xs = xs.all (smB k)
  | [] => by simp [smBs]
  | x :: xs => by simp [smBs, smBs_all k xs]
theorem in13 (xs : List D) (m : Mem) : opNotIn (.bl false) (.loc m.length) (m ++ [.lst (xs.map fun _ => .bl true)]) = some (.bl true, m ++ [.lst (xs.map fun _ => .bl true)]) := by
  have h0 : pureD 12 (.bl false) = true := rfl
  have h1 : ∀ l : List D, pureDs 11 (l.map fun _ => D.bl true) = true := by
    intro l
    induction l with
    | nil => rfl
    | cons a l ih => simp [pureDs, pureD, ih]
  have h2 : ∀ l : List D, ((l.map fun _ => D.bl true).any fun z => eqv z (.bl false)) = false := by
    intro l
    induction l with
    | nil => rfl
    | cons a l ih => simp [eqv]
  simp only [opNotIn, inM, get_end, h0, h1, and_self, if_true, h2, Option.map_some, Bool.not_false]
def lc13 : Den := xLc (iRange1 (aCons (xCallF bLen (aCons (xVar 1) (aNil))) (aNil))) (.nm 2) (tYesD) (xGc (xCall 13 (aCons (xBin opIx (xVar 0) (xVar 2)) (aCons (xBin opIx (xVar 1) (xVar 2)) (aNil))))) [2]
theorem lc13_ev (fe : FE) (xs : List D) (m : Mem) (hl : xs.length ≤ 1000) (ih : ∀ x ∈ xs, fe 13 [x, x] m = .ok (.bl true) m) : lc13 fe [some (.tup xs), some (.tup xs), none] m = .ok (.loc m.length) (m ++ [.lst ((rangeD 0 xs.length).map fun _ => .bl true)]) := by
  have z := sizeLine_is
  have hit : iRange1 (aCons (xCallF bLen (aCons (xVar 1) (aNil))) (aNil)) fe [some (.tup xs), some (.tup xs), none] m = .ok ⟨rangeD 0 xs.length, [], none⟩ m := irange1_ev hl (by simp [bLen])
  exact xLc_bools (fe := fe) (ρ := [some (.tup xs), some (.tup xs), none]) (m := m) (m1 := m) (it := iRange1 (aCons (xCallF bLen (aCons (xVar 1) (aNil))) (aNil))) (p := .nm 2) (own := [2]) (e := xGc (xCall 13 (aCons (xBin opIx (xVar 0) (xVar 2)) (aCons (xBin opIx (xVar 1) (xVar 2)) (aNil))))) (fun _ => true) (xs := rangeD 0 xs.length) (w := [])
      hit rfl (by rw [rangeD_len]; omega) fun d hd => by
        obtain ⟨j, rfl, hj⟩ := rangeD_mem hd
        have hat : L2.atI xs (j : Int) = some xs[j] := by rw [atI_nat, List.getElem?_eq_getElem hj]
        have ih := ih xs[j] (List.getElem_mem hj)
        refine ⟨_, rfl, ?_⟩
        simp [wipeE, opIx, hat, ih]
theorem ed13 : d13 = sSeq (sIf (tGc (tB (xBin opIs (xVar 1) (xLit .non)))) (sRet (xGc (xBin opIs (xVar 0) (xLit .non)))) (sNil)) (sSeq (sIf (tGc (tVal (xIsi ["bool"] (xVar 1)))) (sRet (xGc (xAnd (xIsi ["bool"] (xVar 0)) (xBin opEq (xVar 0) (xVar 1))))) (sNil)) (sSeq (sIf (tGc (tVal (xIsi ["int"] (xVar 1)))) (sRet (xGc (xAnd (xIsi ["int"] (xVar 0)) (xAnd (xNot (xIsi ["bool"] (xVar 0))) (xBin opEq (xVar 0) (xVar 1)))))) (sNil)) (sSeq (sIf (tGc (tVal (xIsi ["str"] (xVar 1)))) (sRet (xGc (xAnd (xIsi ["str"] (xVar 0)) (xBin opEq (xVar 0) (xVar 1))))) (sNil)) (sSeq (sIf (tGc (tOo (tB (xBin opNe (xIsi ["tuple"] (xVar 1)) (xIsi ["tuple"] (xVar 0)))) (tB (xBin opNe (xIsi ["list"] (xVar 1)) (xIsi ["list"] (xVar 0)))))) (sRet (xGc (xLit (.bl false)))) (sNil)) (sSeq (sIf (tGc (tOo (tNt (tVal (xIsi ["tuple", "list"] (xVar 0)))) (tB (xBin opNe (xCallF bLen (aCons (xVar 0) (aNil))) (xCallF bLen (aCons (xVar 1) (aNil))))))) (sRet (xGc (xLit (.bl false)))) (sNil)) (sRet (xGc (xBin opNotIn (xLit (.bl false)) lc13)))))))) := rfl
theorem r13_ev (fe : FE) (ρ : Env) (X : Den) (xs : List D) (m : Mem) (hX : X fe ρ m = .ok (.loc m.length) (m ++ [.lst (xs.map fun _ => .bl true)])) : sRet (xGc (xBin opNotIn (xLit (.bl false)) X)) fe ρ m = .ret (.bl true) m := by
  have hin := in13 xs m
  simp only [sRet_ev, xGc_ev, xBin_ev, xLit_ev, Out.bind_ok, hX, hin, Out.ofO_some, gcO_bl, ofE_ok]
def t13l : DenT := tGc (tOo (tNt (tVal (xIsi ["tuple", "list"] (xVar 0)))) (tB (xBin opNe (xCallF bLen (aCons (xVar 0) (aNil))) (xCallF bLen (aCons (xVar 1) (aNil))))))
theorem t13l_ev (fe : FE) (xs : List D) (m : Mem) : t13l fe [some (.tup xs), some (.tup xs), none] m = .ok false m := by
  have h : ∀ i : Int, opNe (.int i) (.int i) m = some (.bl false, m) := fun i => opNe_self rfl
  have h1 : xIsi ["tuple", "list"] (xVar 0) fe [some (.tup xs), some (.tup xs), none] m = .ok (.bl true) m := by simp [tyN, isT]
  have h2 : xCallF bLen (aCons (xVar 0) (aNil)) fe [some (.tup xs), some (.tup xs), none] m = .ok (.int xs.length) m := by simp [bLen]
  have h3 : xCallF bLen (aCons (xVar 1) (aNil)) fe [some (.tup xs), some (.tup xs), none] m = .ok (.int xs.length) m := by simp [bLen]
  simp only [t13l, tGc_ev, tOo_ev, tNt_ev, tVal_ev, h1, Out.bind_ok, truth, Bool.not_true, Bool.false_eq_true, if_false, tB_ev, xBin_ev, h2, h3, h, Out.ofO_some, blK_bl, gcB_same]
theorem if_skip {t : DenT} {a : DenS} {S : DenS} {fe : FE} {ρ : Env} {m : Mem} {R : OutS} (h : t fe ρ m = .ok false m) (g : S fe ρ m = R) : sSeq (sIf t a sNil) S fe ρ m = R := by
  rw [sSeq_ev, sIf_ev, h]
  exact g
theorem s13t (n : Nat) (xs : List D) (m : Mem) (hl : xs.length ≤ 1000) (ih : ∀ x ∈ xs, run ds n 13 [x, x] m = .ok (.bl true) m) : run ds (n + 1) 13 [.tup xs, .tup xs] m = .ok (.bl true) m := by
  have h1 := r13_ev (run ds n) [some (.tup xs), some (.tup xs), none] lc13 (rangeD 0 xs.length) m (lc13_ev (run ds n) xs m hl ih)
  have h2 := if_skip (a := sRet (xGc (xLit (.bl false)))) (t13l_ev (run ds n) xs m) h1
  have q1 : (tGc (tOo (tB (xBin opNe (xIsi ["tuple"] (xVar 1)) (xIsi ["tuple"] (xVar 0)))) (tB (xBin opNe (xIsi ["list"] (xVar 1)) (xIsi ["list"] (xVar 0)))))) (run ds n) [some (.tup xs), some (.tup xs), none] m = .ok false m := by
    simp [tyN, isT, opNe, eqM, pureD, eqv]
  have q2 : ∀ T : String, (T = "bool" ∨ T = "int" ∨ T = "str") → (tGc (tVal (xIsi [T] (xVar 1)))) (run ds n) [some (.tup xs), some (.tup xs), none] m = .ok false m := fun T hT => by
    rcases hT with rfl | rfl | rfl <;> simp [tyN, isT, truth]
  have q3 : (tGc (tB (xBin opIs (xVar 1) (xLit .non)))) (run ds n) [some (.tup xs), some (.tup xs), none] m = .ok false m := by
    simp [opIs]
  have h3 := if_skip (a := sRet (xGc (xBin opIs (xVar 0) (xLit .non)))) q3 (if_skip (a := sRet (xGc (xAnd (xIsi ["bool"] (xVar 0)) (xBin opEq (xVar 0) (xVar 1))))) (q2 "bool" (.inl rfl)) (if_skip (a := sRet (xGc (xAnd (xIsi ["int"] (xVar 0)) (xAnd (xNot (xIsi ["bool"] (xVar 0))) (xBin opEq (xVar 0) (xVar 1)))))) (q2 "int" (.inr (.inl rfl))) (if_skip (a := sRet (xGc (xAnd (xIsi ["str"] (xVar 0)) (xBin opEq (xVar 0) (xVar 1))))) (q2 "str" (.inr (.inr rfl))) (if_skip (a := sRet (xGc (xLit (.bl false)))) q1 h2))))
  have h4 : d13 (run ds n) [some (.tup xs), some (.tup xs), none] m = .ret (.bl true) m := h3
  rw [r13]
  show gcO m (bodyD 2 3 d13 (run ds n) [.tup xs, .tup xs] m) = _
  rw [bodyD_ev (by rfl)]
  have h5 : d13 (run ds n) (List.map some [D.tup xs, D.tup xs] ++ List.replicate (3 - 2) none) m = _ := h4
  rw [h5]
  exact gcO_same
theorem s13 (k : Nat) : ∀ (x : D) (n : Nat) (m : Mem), smB k x = true → run ds (n + k + 1) 13 [x, x] m = .ok (.bl true) m := by
  have base : ∀ (k : Nat) (x : D) (n : Nat) (m : Mem), (∀ xs, x ≠ .tup xs) → smB k x = true → run ds (n + 1) 13 [x, x] m = .ok (.bl true) m := by
    intro k x n m hx h
    cases x with
    | non => simp [r13, d13, opIs]
    | int i => simp [r13, d13, opIs, tyN, isT, truth, opEq, eqM, pureD, eqv]
    | str s =>
      have h' : PyData.strOk s = true := by cases k <;> simpa [smB] using h
      simp [r13, d13, opIs, tyN, isT, truth, opEq, eqM, pureD, h', eqv]
    | tup xs => exact absurd rfl (hx xs)
    | bl _ => cases k <;> simp [smB] at h
    | seq _ => cases k <;> simp [smB] at h
    | loc _ => cases k <;> simp [smB] at h
    | fn _ => cases k <;> simp [smB] at h
  induction k with
  | zero =>
    intro x n m h
    refine base 0 x n m (fun xs e => ?_) h
    subst e
    simp [smB] at h
  | succ k ih =>
    intro x n m h
    cases x with
    | tup xs =>
      simp only [smB, smBs_all, Bool.and_eq_true, decide_eq_true_eq, List.all_eq_true] at h
      exact s13t (n + k + 1) xs m h.1 fun x hx => ih x n m (h.2 x hx)
    | _ => exact base (k + 1) _ (n + (k + 1)) m (fun xs e => by cases e) h
theorem sh_sm {A : Tm} (h : Gd A) (hl : A.length ≤ 1000) (hs : ∀ t ∈ A, t.1.length ≤ 1000) : smB 4 (shD A) = true := by
  rw [srt_sh h]
  have hp := srt_perm h
  simp only [smB, smBs_all, Bool.and_eq_true, decide_eq_true_eq, List.all_eq_true, List.length_map]
  refine ⟨by rw [hp.length_eq]; exact hl, fun d hd => ?_⟩
  obtain ⟨t, ht, rfl⟩ := List.mem_map.mp hd
  have := hs t (hp.mem_iff.mp ht)
  have hu := usort_len t.1
  have hr : ∀ d ∈ (kvK K1 (cntT t.1)).map pairD, smB 1 d = true := fun d hd => by
    simp only [kvK, cntT, List.map_map, List.mem_map, Function.comp_apply] at hd
    obtain ⟨r, _, rfl⟩ := hd
    rfl
  have h2 : smB 2 (prD t.1) = true := by
    simp only [prD, smB, smBs_all, Bool.and_eq_true, decide_eq_true_eq, List.all_eq_true]
    exact ⟨by simp [kvK, cntT]; omega, hr⟩
  simp [fP, pairD, smB, smBs, h2]
/-! ### the tape -/
def tpM (t c : Nat) (cs : List Int) (sd : Int) (M : Mem) : Mem := (M.set c (.lst (cs.map D.int))).set t (.lst [.loc c, .int sd])
structure Tp (t c : Nat) (M : Mem) : Prop where
  ne : t ≠ c
  ex : ∃ (cs : List Int) (sd : Int), M[t]? = some (.lst [.loc c, .int sd]) ∧ M[c]? = some (.lst (cs.map D.int))
theorem tpM_len {t c : Nat} {cs : List Int} {sd : Int} {M : Mem} : (tpM t c cs sd M).length = M.length := by simp [tpM]
theorem tpM_get {t c : Nat} {cs : List Int} {sd : Int} {M : Mem} {i : Nat} (h1 : i ≠ t) (h2 : i ≠ c) : (tpM t c cs sd M)[i]? = M[i]? := by
  unfold tpM
  rw [List.getElem?_set_ne (Ne.symm h1), List.getElem?_set_ne (Ne.symm h2)]
theorem set_comm {M : Mem} {i j : Nat} {a b : O} (h : i ≠ j) : (M.set i a).set j b = (M.set j b).set i a := List.set_comm _ _ h
theorem tpM_tpM {t c : Nat} {cs cs' : List Int} {sd sd' : Int} {M : Mem} (h : t ≠ c) : tpM t c cs' sd' (tpM t c cs sd M) = tpM t c cs' sd' M := by
  unfold tpM
  rw [set_comm (M := M.set c _) h, List.set_set, List.set_set]
theorem Tp.lt {t c : Nat} {M : Mem} (h : Tp t c M) : t < M.length ∧ c < M.length := by
  obtain ⟨cs, sd, h1, h2⟩ := h.ex
  exact ⟨(List.getElem?_eq_some_iff.mp h1).1, (List.getElem?_eq_some_iff.mp h2).1⟩
theorem Tp.self {t c : Nat} {M : Mem} (h : Tp t c M) : ∃ cs sd, tpM t c cs sd M = M := by
  obtain ⟨cs, sd, h1, h2⟩ := h.ex
  exact ⟨cs, sd, by unfold tpM; rw [set_self h2, set_self h1]⟩
theorem Tp.tpM {t c : Nat} {M : Mem} (h : Tp t c M) (cs : List Int) (sd : Int) : Tp t c (tpM t c cs sd M) := by
  obtain ⟨h1, h2⟩ := h.lt
  refine ⟨h.ne, cs, sd, ?_, ?_⟩
  · simp [K39.tpM, h1]
  · unfold K39.tpM
    rw [List.getElem?_set_ne h.ne]
    simp [h2]
theorem Tp.app {t c : Nat} {M : Mem} (h : Tp t c M) (x : Mem) : Tp t c (M ++ x) := by
  obtain ⟨cs, sd, h1, h2⟩ := h.ex
  exact ⟨h.ne, cs, sd, app_get h1, app_get h2⟩
theorem tpM_app {t c : Nat} {M : Mem} (h : Tp t c M) (cs : List Int) (sd : Int) (x : Mem) : tpM t c cs sd (M ++ x) = tpM t c cs sd M ++ x := by
  obtain ⟨h1, h2⟩ := h.lt
  unfold tpM
  rw [set_app_len h2, set_app_len (by simpa using h1)]
theorem tpM_cl {t c : Nat} {M : Mem} (h : Tp t c M) (hc : ClM M) (cs : List Int) (sd : Int) : ClM (tpM t c cs sd M) := by
  obtain ⟨h1, h2⟩ := h.lt
  unfold tpM
  refine (hc.put (show closedO M.length (.lst (cs.map D.int)) = true from int_closed _) c).put ?_ t
  simp [closedO, closeds, closed, h2]
def w11 : DenT := tGc (tAn (tB (xBin opGt (xCallF bLen (aCons (xVar 2) (aNil))) (xLit (.int 0)))) (tB (xBin opEq (xBin opIx (xVar 2) (xLit (.int 0))) (xLit (.int 0)))))
def bw11 : DenS := sExpr (xGc (xMeth [("list", fPop)] (xVar 2) (aCons (xLit (.int 0)) (aNil))))
theorem while11 (fe : FE) (c : Nat) (o0 o1 o3 : Option D) : ∀ (cs : List Int) (M : Mem), M[c]? = some (.lst (cs.map D.int)) → ∃ cs' : List Int, whileGo (w11 fe) (bw11 fe) (cs.length + 1) [o0, o1, some (.loc c), o3] M = .next [o0, o1, some (.loc c), o3] (M.set c (.lst (cs'.map D.int)))
  | [], M, h => by
    refine ⟨[], ?_⟩
    rw [set_self h]
    have : w11 fe [o0, o1, some (.loc c), o3] M = .ok false M := by simp [w11, bLen, h, opGt]
    simp only [List.length_nil, whileGo, this, ofE_ok, Bool.false_eq_true, if_false]
  | x :: cs, M, h => by
    by_cases e : x = 0
    · subst e
      have hlt := (List.getElem?_eq_some_iff.mp h).1
      have h1 : w11 fe [o0, o1, some (.loc c), o3] M = .ok true M := by
        simp only [List.map_cons] at h
        simp [w11, bLen, h, opGt, opIx, opEq, eqM, pureD, eqv]
      have h2 : bw11 fe [o0, o1, some (.loc c), o3] M = .next [o0, o1, some (.loc c), o3] (M.set c (.lst (cs.map D.int))) := by
        simp only [List.map_cons] at h
        have hg : gcO M (.ok (.int 0) (M.set c (.lst (cs.map D.int)))) = .ok (.int 0) (M.set c (.lst (cs.map D.int))) := gcO_len (by simp)
        simp [bw11, tyD, h, List.lookup, fPop, hg]
      obtain ⟨cs', h3⟩ := while11 fe c o0 o1 o3 cs (M.set c (.lst (cs.map D.int))) (by simp [hlt])
      refine ⟨cs', ?_⟩
      rw [List.set_set] at h3
      show whileGo (w11 fe) (bw11 fe) ((cs.length + 1) + 1) _ _ = _
      rw [whileGo, h1]
      simp only [ofE_ok, if_true, h2]
      exact h3
    · refine ⟨x :: cs, ?_⟩
      rw [set_self h]
      have h1 : w11 fe [o0, o1, some (.loc c), o3] M = .ok false M := by
        simp only [List.map_cons] at h
        simp [w11, bLen, h, opGt, opIx, opEq, eqM, pureD, eqv, e]
      show whileGo (w11 fe) (bw11 fe) ((cs.length + 1) + 1) _ _ = _
      rw [whileGo, h1]
      simp only [ofE_ok, Bool.false_eq_true, if_false]
theorem ed11 : d11 = sSeq (sSet 2 (xGc (xBin opIx (xVar 0) (xLit (.int 0))))) (sSeq (sWhile w11 bw11) (sSeq (sIf (tGc (tB (xBin opGt (xCallF bLen (aCons (xVar 2) (aNil))) (xLit (.int 0))))) (sSeq (sSet 3 (xGc (xBin opIx (xVar 2) (xLit (.int 0))))) (sSeq (sSub (xVar 2) (xGc (xLit (.int 0))) (xGc (xBin opFdiv (xVar 3) (xVar 1)))) (sRet (xGc (xBin opMod (xCallF bInt (aCons (xVar 3) (aNil))) (xVar 1)))))) (sNil)) (sSeq (sSub (xVar 0) (xGc (xLit (.int 1))) (xGc (xBin opMod (xCallF bInt (aCons (xBin opAdd (xBin opMul (xBin opIx (xVar 0) (xLit (.int 1))) (xLit (.int 48271))) (xLit (.int 12345))) (aNil))) (xLit (.int 2147483647))))) (sRet (xGc (xBin opMod (xCallF bInt (aCons (xBin opFdiv (xBin opIx (xVar 0) (xLit (.int 1))) (xLit (.int 64))) (aNil))) (xVar 1))))))) := rfl
theorem s11 (n t c : Nat) (many : Int) (M : Mem) (h : Tp t c M) (h1 : 0 < many) (h2 : many < 1000000) : ∃ r cs sd, 0 ≤ r ∧ r < many ∧ run ds (n + 1) 11 [.loc t, .int many] M = .ok (.int r) (tpM t c cs sd M) := by
  obtain ⟨cs, sd, ht, hc⟩ := h.ex
  obtain ⟨htl, hcl⟩ := h.lt
  have hm0 : many ≠ 0 := by omega
  have hn : many.natAbs < 1073741824 := by omega
  have fm : ∀ x : Int, 0 ≤ x.fmod many ∧ x.fmod many < many := fun x => ⟨Int.fmod_nonneg_of_pos x h1, Int.fmod_lt_of_pos x h1⟩
  obtain ⟨cs', hw⟩ := while11 (run ds n) c (some (.loc t)) (some (.int many)) none cs M hc
  have hwh := sWhile_is (t := w11) (b := bw11) (fe := run ds n) _ hw (by simp)
  have ht2 : (M.set c (.lst (cs'.map D.int)))[t]? = some (.lst [.loc c, .int sd]) := by rw [List.getElem?_set_ne (Ne.symm h.ne)]; exact ht
  have hM1 : M[t]? = some (.lst [.loc c, .int sd]) := ht
  cases cs' with
  | nil =>
    have hc2 : (M.set c (.lst []))[c]? = some (.lst []) := by simp [hcl]
    simp only [List.map_nil] at hwh ht2
    generalize hs2 : Int.fmod (sd * 48271 + 12345) 2147483647 = s2
    have ht3 : ((M.set c (.lst [])).set t (.lst [.loc c, .int s2]))[t]? = some (.lst [.loc c, .int s2]) := by simp [htl]
    refine ⟨(s2.fdiv 64).fmod many, [], s2, (fm _).1, (fm _).2, ?_⟩
    have e0 : tpM t c [] s2 M = (M.set c (.lst [])).set t (.lst [.loc c, .int s2]) := rfl
    rw [e0]
    have hlen : ((M.set c (.lst [])).set t (.lst [.loc c, .int s2])).length = M.length := by simp
    generalize hX : M.set c (.lst []) = X at *
    generalize hY : X.set t (.lst [.loc c, .int s2]) = Y at *
    have hgY : gcO M (.ok (.int ((s2.fdiv 64).fmod many)) Y) = .ok (.int ((s2.fdiv 64).fmod many)) Y := gcO_len hlen
    have hsd : setD (.loc t) (.int 1) (.int s2) X = some Y := by
      simp only [setD, ht2]
      rw [show ([D.loc c, D.int sd] : List D).length = 2 from rfl]
      simp [L2.ixN, ← hY]
    rw [r11, ed11]
    simp [opIx, hM1, hwh, bLen, hc2, opGt, sSub, ht2, opMul, opAdd, bInt, opMod, hs2, hsd, ht3, opFdiv, hm0, hgY]
  | cons x cs' =>
    have hc2 : (M.set c (.lst (.int x :: cs'.map D.int)))[c]? = some (.lst (.int x :: cs'.map D.int)) := by simp [hcl]
    simp only [List.map_cons] at hwh ht2
    refine ⟨x.fmod many, x.fdiv many :: cs', sd, (fm _).1, (fm _).2, ?_⟩
    have e0 : tpM t c (x.fdiv many :: cs') sd M = (M.set c (.lst (.int x :: cs'.map D.int))).set c (.lst (.int (x.fdiv many) :: cs'.map D.int)) := by
      unfold tpM
      rw [List.set_set]
      simp only [List.map_cons]
      exact set_self (by rw [List.getElem?_set_ne (Ne.symm h.ne)]; exact ht)
    rw [e0]
    have hlen : ((M.set c (.lst (.int x :: cs'.map D.int))).set c (.lst (.int (x.fdiv many) :: cs'.map D.int))).length = M.length := by simp
    generalize hX : M.set c (.lst (.int x :: cs'.map D.int)) = X at *
    generalize hY : X.set c (.lst (.int (x.fdiv many) :: cs'.map D.int)) = Y at *
    have hgY : gcO M (.ok (.int (x.fmod many)) Y) = .ok (.int (x.fmod many)) Y := gcO_len hlen
    have hsd : setD (.loc c) (.int 0) (.int (x.fdiv many)) X = some Y := by
      simp only [setD, hc2]
      simp [L2.ixN, ← hY]
    have hpos : (0 : Int) < (cs'.length : Int) + 1 := by omega
    rw [r11, ed11]
    simp [opIx, hM1, hwh, bLen, hc2, opGt, sSub, opFdiv, hm0, hn, hsd, bInt, opMod, hgY, hpos]
end K39
end Mn
set_option Elab.async false
set_option linter.all false
set_option maxRecDepth 100000
set_option maxHeartbeats 1000000
namespace Mn
namespace K39
open PySem
/-! ### the tape laid -/
def bl10 : DenS := sSet 1 (xGc (xBin opMod (xCallF bInt (aCons (xBin opAdd (xBin opMul (xVar 1) (xLit (.int 31))) (xVar 2)) (aNil))) (xLit (.int 1000003))))
theorem loop10 (fe : FE) (o0 : Option D) (m : Mem) : ∀ (ns : List Int) (sd : Int) (o2 : Option D), ∃ sd' o2', forGo (bl10 fe) (.nm 2) [] (ns.map D.int) [o0, some (.int sd), o2] m = .next [o0, some (.int sd'), o2'] m
  | [], sd, o2 => ⟨sd, o2, by simp [forGo]⟩
  | x :: ns, sd, o2 => by
    obtain ⟨sd', o2', h⟩ := loop10 fe o0 m ns ((sd * 31 + x).fmod 1000003) (some (.int x))
    refine ⟨sd', o2', ?_⟩
    have hst : bl10 fe [o0, some (.int sd), some (.int x)] m = .next [o0, some (.int ((sd * 31 + x).fmod 1000003)), some (.int x)] m := by
      simp [bl10, opMul, opAdd, bInt, opMod]
    have hb : bindP (.nm 2) (.int x) [o0, some (.int sd), o2] = some [o0, some (.int sd), some (.int x)] := rfl
    simp only [List.map_cons, forGo, watchOk_nil, if_true, hb, hst]
    exact h
theorem s10 (n : Nat) (ns : List Int) (hl : ns.length ≤ 63) (m : Mem) : ∃ (cs : List Int) (sd : Int), run ds (n + 1) 10 [.seq (ns.map D.int)] m = .ok (.loc (m.length + 1)) (m ++ [.lst (cs.map D.int), .lst [.loc m.length, .int sd]]) := by
  have z := sizeLine_is
  obtain ⟨sd', o2', h⟩ := loop10 (run ds n) (some (.seq (ns.map D.int))) m ns 7 none
  have hf : sFor (iAny (xVar 0)) (.nm 2) bl10 (run ds n) [some (.seq (ns.map D.int)), some (.int 7), none] m = .next [some (.seq (ns.map D.int)), some (.int sd'), o2'] m := by
    unfold sFor
    have : iAny (xVar 0) (run ds n) [some (.seq (ns.map D.int)), some (.int 7), none] m = .ok ⟨ns.map D.int, [], none⟩ m := by simp
    rw [this]
    simp only [ofE_ok, lockM, h, unlockS, unlockM]
  have hlc := xLc_map (fe := run ds n) (ρ := [some (.seq (ns.map D.int)), some (.int sd'), o2']) (m := m) (m1 := m) (it := iAny (xVar 0)) (p := .nm 2) (own := [2]) (e := xGc (xCallF bAbs (aCons (xCallF bInt (aCons (xVar 2) (aNil))) (aNil)))) (fun d => match d with
      | .int i => .int (if i < 0 then -i else i)
      | d => d) (xs := ns.map D.int) (w := []) (by simp) rfl (by simp; omega) fun d hd => by
      obtain ⟨i, _, rfl⟩ := List.mem_map.mp hd
      refine ⟨_, rfl, ?_⟩
      simp [wipeE, bInt, bAbs]
  have e1 : (ns.map D.int).map (fun d => match d with
      | .int i => D.int (if i < 0 then -i else i)
      | d => d) = (ns.map fun i => if i < 0 then -i else i).map D.int := by
    rw [List.map_map, List.map_map]
    rfl
  rw [e1] at hlc
  refine ⟨ns.map fun i => if i < 0 then -i else i, sd' + 1, ?_⟩
  generalize (ns.map fun i => if i < 0 then -i else i).map D.int = C at *
  have ed : d10 = sSeq (sSet 1 (xGc (xLit (.int 7)))) (sSeq (sFor (iAny (xVar 0)) (.nm 2) bl10) (sRet (xGc (xLst (aCons (xLc (iAny (xVar 0)) (.nm 2) (tYesD) (xGc (xCallF bAbs (aCons (xCallF bInt (aCons (xVar 2) (aNil))) (aNil)))) [2]) (aCons (xBin opAdd (xVar 1) (xLit (.int 1))) (aNil))))))) := rfl
  have g0 : ∀ x, gcO m (.ok (.loc (m.length + 1)) x) = .ok (.loc (m.length + 1)) x := fun x => by
    have : ¬ (m.length + 1 < m.length) := by omega
    simp [gcO, closed, this]
  rw [r10, ed]
  simp [hf, hlc, opAdd, g0]
/-- one of a list -/
theorem s12 (n t c rl : Nat) (xs : List D) (M : Mem) (h : Tp t c M) (hr : M[rl]? = some (.lst xs)) (h1 : rl ≠ t) (h2 : rl ≠ c) (h0 : xs ≠ []) (hl : xs.length ≤ 1000) : ∃ x cs sd, x ∈ xs ∧ run ds (n + 2) 12 [.loc t, .loc rl] M = .ok x (tpM t c cs sd M) := by
  have hp : 0 < xs.length := List.length_pos_iff.mpr h0
  obtain ⟨r, cs, sd, hr0, hr1, hd⟩ := s11 n t c (xs.length : Int) M h (by omega) (by omega)
  obtain ⟨k, rfl⟩ := Int.eq_ofNat_of_zero_le hr0
  have hk : k < xs.length := by omega
  have hat : L2.atI xs (k : Int) = some xs[k] := by rw [atI_nat, List.getElem?_eq_getElem hk]
  have hr' : (tpM t c cs sd M)[rl]? = some (.lst xs) := by rw [tpM_get h1 h2]; exact hr
  refine ⟨xs[k], cs, sd, List.getElem_mem hk, ?_⟩
  have hg : gcO M (.ok xs[k] (tpM t c cs sd M)) = .ok xs[k] (tpM t c cs sd M) := gcO_len tpM_len
  generalize tpM t c cs sd M = Y at *
  generalize xs[k] = X at *
  simp [r12, d12, bLen, hr, hd, opIx, hr', hat, hg]
/-! ### sums drawn -/
/-- a sum as it is drawn -/
structure DS (A : Tm) (many turns : Nat) : Prop where
  gd : Gd A
  len : A.length ≤ turns
  row : ∀ t ∈ A, t.1.length ≤ 3 ∧ ∀ r ∈ t.1, 0 ≤ r ∧ r < (many : Int)
  bd : ∀ p, getT A p ≤ 3 * turns
theorem DS.nil (many : Nat) : DS [] many 0 := ⟨⟨by simp [keysT], by simp, by simp⟩, by simp, by simp, fun p => by simp [getT]⟩
theorem DS.put {A : Tm} {many turns : Nat} (h : DS A many turns) {p : List Int} (hp : p.Pairwise (· ≤ ·)) (hl : p.length ≤ 3) (hr : ∀ r ∈ p, 0 ≤ r ∧ r < (many : Int)) {c : Int} (h1 : 1 ≤ c) (h3 : c ≤ 3) : DS (addT A (p, c)) many (turns + 1) := by
  have nd := addT_nodup (t := (p, c)) h.gd.nd
  have g0 : ∀ q, 0 ≤ getT A q := fun q => by
    by_cases hq : q ∈ keysT A
    · obtain ⟨t, ht, rfl⟩ := List.mem_map.mp hq
      rw [get_of h.gd.nd ht]
      have := h.gd.pos t ht; omega
    · rw [get_none hq]; omega
  have hk : ∀ t ∈ addT A (p, c), t.1 ∈ keysT A ∨ t.1 = p := fun t ht => addT_mem.mp (key_of ht)
  refine ⟨⟨nd, fun t ht => ?_, fun t ht => ?_⟩, ?_, fun t ht => ?_, fun q => ?_⟩
  · rcases hk t ht with e | e
    · obtain ⟨u, hu, e⟩ := List.mem_map.mp e
      rw [← e]; exact h.gd.srt u hu
    · rw [e]; exact hp
  · have e := get_of nd ht
    rw [addT_get] at e
    have := g0 t.1
    rcases hk t ht with e2 | e2
    · obtain ⟨u, hu, e3⟩ := List.mem_map.mp e2
      have := h.gd.pos u hu
      rw [← e3, get_of h.gd.nd hu] at e
      split at e <;> omega
    · rw [if_pos e2.symm] at e
      simp only at e
      omega
  · have := acc_len [(p, c)] A
    have e : acc [(p, c)] A = addT A (p, c) := rfl
    rw [e] at this
    have := h.len
    simp at *
    omega
  · rcases hk t ht with e | e
    · obtain ⟨u, hu, e⟩ := List.mem_map.mp e
      rw [← e]; exact h.row u hu
    · rw [e]; exact ⟨hl, hr⟩
  · rw [addT_get]
    have := h.bd q
    split
    · simp only
      omega
    · omega
def lc17 : Den := xLc (iRange1 (aCons (xCall 11 (aCons (xVar 0) (aCons (xLit (.int 4)) (aNil)))) (aNil))) (.nm 6) (tYesD) (xGc (xCall 11 (aCons (xVar 0) (aCons (xVar 1) (aNil))))) [6]
theorem lc17_ev (n t c many : Nat) (X : Mem) (o2 o3 o4 o5 o6 : Option D) (h : Tp t c X) (h1 : 1 ≤ many) (h2 : many ≤ 1000) : ∃ (p : List Int) (cs : List Int) (sd : Int), p.length ≤ 3 ∧ (∀ r ∈ p, 0 ≤ r ∧ r < (many : Int)) ∧ lc17 (run ds (n + 1)) [some (.loc t), some (.int many), o2, o3, o4, o5, o6] X = .ok (.loc X.length) (tpM t c cs sd X ++ [.lst (p.map D.int)]) := by
  have z := sizeLine_is
  obtain ⟨k, cs0, sd0, hk0, hk1, hd⟩ := s11 n t c 4 X h (by omega) (by omega)
  obtain ⟨k, rfl⟩ := Int.eq_ofNat_of_zero_le hk0
  have hit : iRange1 (aCons (xCall 11 (aCons (xVar 0) (aCons (xLit (.int 4)) (aNil)))) (aNil)) (run ds (n + 1)) [some (.loc t), some (.int many), o2, o3, o4, o5, o6] X = .ok ⟨rangeD 0 k, [], none⟩ (tpM t c cs0 sd0 X) := irange1_ev (by omega) (by simp [hd])
  obtain ⟨acc, m', g1, ⟨cs, sd, p, rfl, rfl, hp⟩, g3⟩ := xLc_inv (fe := run ds (n + 1)) (ρ := [some (.loc t), some (.int many), o2, o3, o4, o5, o6]) (m := X) (m1 := tpM t c cs0 sd0 X) (it := iRange1 (aCons (xCall 11 (aCons (xVar 0) (aCons (xLit (.int 4)) (aNil)))) (aNil))) (p := .nm 6) (own := [6]) (w := []) (xs := rangeD 0 k) (e := xGc (xCall 11 (aCons (xVar 0) (aCons (xVar 1) (aNil)))))
    (fun acc mm => ∃ (cs : List Int) (sd : Int) (p : List Int), mm = tpM t c cs sd X ∧ acc = p.map D.int ∧ ∀ r ∈ p, 0 ≤ r ∧ r < (many : Int)) hit ⟨cs0, sd0, [], rfl, rfl, by simp⟩ (by rw [rangeD_len]; omega) (fun _ _ _ => rfl) (by
      rintro x hx acc mm ⟨cs, sd, p, rfl, rfl, hp⟩
      obtain ⟨r, cs', sd', hr0, hr1, hd⟩ := s11 n t c many (tpM t c cs sd X) (h.tpM cs sd) (by omega) (by omega)
      rw [tpM_tpM h.ne] at hd
      refine ⟨_, .int r, tpM t c cs' sd' X, rfl, ?_, cs', sd', p ++ [r], rfl, by simp, fun y hy => ?_⟩
      · have hg : gcO (tpM t c cs sd X) (.ok (.int r) (tpM t c cs' sd' X)) = .ok (.int r) (tpM t c cs' sd' X) := gcO_len (by rw [tpM_len, tpM_len])
        generalize tpM t c cs sd X = Y at *
        generalize tpM t c cs' sd' X = Y' at *
        simp [wipeE, hd, hg]
      · rcases List.mem_append.mp hy with hy | hy
        · exact hp y hy
        · rw [List.mem_singleton.mp hy]; exact ⟨hr0, hr1⟩)
  rw [rangeD_len] at g3
  refine ⟨p, cs, sd, by simp at g3; omega, hp, ?_⟩
  unfold lc17
  rw [g1, tpM_len]
def bl17 : DenS := sSeq (sSet 5 (xGc (xCallF bTuple (aCons (xCallF bSorted (aCons lc17 (aNil))) (aNil))))) (sSub (xVar 3) (xGc (xVar 5)) (xGc (xBin opAdd (xBin opAdd (xMeth [("dict", fGet)] (xVar 3) (aCons (xVar 5) (aCons (xLit (.int 0)) (aNil)))) (xLit (.int 1))) (xCall 11 (aCons (xVar 0) (aCons (xLit (.int 3)) (aNil)))))))
theorem turn17 (n t c many turns : Nat) (M : Mem) (A : Tm) (o2 o4 o5 o6 : Option D) (h : Tp t c M) (hc : ClM M) (h1 : 1 ≤ many) (h2 : many ≤ 1000) (hA : DS A many turns) (ht : turns ≤ 1000) : ∃ (A' : Tm) (cs : List Int) (sd : Int) (o5' : Option D), DS A' many (turns + 1) ∧ bl17 (run ds (n + 1)) [some (.loc t), some (.int many), o2, some (.loc M.length), o4, o5, o6] (M ++ [O.dict (kvK rowK A) false]) = .next [some (.loc t), some (.int many), o2, some (.loc M.length), o4, o5', o6] (tpM t c cs sd M ++ [O.dict (kvK rowK A') false]) := by
  have z := sizeLine_is
  obtain ⟨p, cs, sd, hp, hr, hlc⟩ := lc17_ev n t c many (M ++ [O.dict (kvK rowK A) false]) o2 (some (.loc M.length)) o4 o5 o6 (h.app _) h1 h2
  rw [tpM_app h] at hlc
  obtain ⟨k, cs2, sd2, hk0, hk1, hd⟩ := s11 n t c 3 (tpM t c cs sd M ++ [O.dict (kvK rowK A) false]) ((h.tpM cs sd).app _) (by omega) (by omega)
  rw [tpM_app (h.tpM cs sd), tpM_tpM h.ne] at hd
  have hsp : (isort p).Pairwise (· ≤ ·) := isort_sorted p
  have hrp : ∀ r ∈ isort p, 0 ≤ r ∧ r < (many : Int) := fun r hr' => hr r ((isort_perm p).mem_iff.mp hr')
  refine ⟨addT A (isort p, 1 + k), cs2, sd2, some (rowK (isort p)), hA.put hsp (by rw [isort_len]; exact hp) hrp (by omega) (by omega), ?_⟩
  have hM1 : ∀ cs sd, (tpM t c cs sd M).length = M.length := fun cs sd => tpM_len
  have hcl1 := (tpM_cl h hc cs sd).app (o := .dict (kvK rowK A) false) (kvK_closedO kfR (fun _ _ => trivial))
  have hbs := bSorted_end (m := tpM t c cs sd M ++ [O.dict (kvK rowK A) false]) (ints_sortable p) (by simp; omega)
  rw [sort_ints] at hbs
  have hlen : (M ++ [O.dict (kvK rowK A) false]).length = (tpM t c cs sd M ++ [O.dict (kvK rowK A) false]).length := by simp [tpM_len]
  rw [hlen] at hlc
  have erow : D.tup ((isort p).map D.int) = rowK (isort p) := rfl
  have hbt := bTuple_end2 (m := tpM t c cs sd M ++ [O.dict (kvK rowK A) false]) (o := .lst (p.map D.int)) (xs := (isort p).map D.int)
  rw [erow] at hbt
  have hg1 := gcO_new (M := M ++ [O.dict (kvK rowK A) false]) (M' := tpM t c cs sd M ++ [O.dict (kvK rowK A) false]) (r := rowK (isort p)) hlen.symm hcl1 [.lst (p.map D.int), .lst ((isort p).map D.int)] (kfR.clo _ _ trivial)
  have e1 : sSet 5 (xGc (xCallF bTuple (aCons (xCallF bSorted (aCons lc17 (aNil))) (aNil)))) (run ds (n + 1)) [some (.loc t), some (.int many), o2, some (.loc M.length), o4, o5, o6] (M ++ [O.dict (kvK rowK A) false]) = .next [some (.loc t), some (.int many), o2, some (.loc M.length), o4, some (rowK (isort p)), o6] (tpM t c cs sd M ++ [O.dict (kvK rowK A) false]) := by
    simp only [sSet_ev, xGc_ev, xCallF_ev, aCons_ev, aNil_ev, hlc, Out.bind_ok, hbs, Out.ofO_some, hbt, hg1, ofE_ok]
    rfl
  have hD1 : (tpM t c cs sd M ++ [O.dict (kvK rowK A) false])[M.length]? = some (.dict (kvK rowK A) false) := by
    rw [List.getElem?_append_right (by rw [hM1]; omega), hM1]; simp
  have hD2 : (tpM t c cs2 sd2 M ++ [O.dict (kvK rowK A) false])[M.length]? = some (.dict (kvK rowK A) false) := by
    rw [List.getElem?_append_right (by rw [hM1]; omega), hM1]; simp
  have hl := hA.len
  have g1 := upd_get kfR (A := A) (p := isort p) (fun _ _ => trivial) trivial hD1
  have g2 := upd_set kfR (A := A) (p := isort p) (c := 1 + k) (fun _ _ => trivial) hA.gd.nd trivial hD2 (by omega)
  have g3 : (tpM t c cs2 sd2 M ++ [O.dict (kvK rowK A) false]).set M.length (.dict (kvK rowK (addT A (isort p, 1 + k))) false) = tpM t c cs2 sd2 M ++ [O.dict (kvK rowK (addT A (isort p, 1 + k))) false] := by
    rw [List.set_append_right _ _ (by rw [hM1]; omega), hM1]; simp
  rw [g3] at g2
  have hty : tyD (tpM t c cs sd M ++ [O.dict (kvK rowK A) false]) (.loc M.length) = "dict" := by simp only [tyD, hD1]
  have hgl : ∀ v, gcO (tpM t c cs sd M ++ [O.dict (kvK rowK A) false]) (.ok v (tpM t c cs2 sd2 M ++ [O.dict (kvK rowK A) false])) = .ok v (tpM t c cs2 sd2 M ++ [O.dict (kvK rowK A) false]) := fun v => gcO_len (by simp [tpM_len])
  refine seq_step e1 ?_
  have ea : getT A (isort p) + 1 + k = getT A (isort p) + (1 + k) := by omega
  generalize rowK (isort p) = Y at *
  generalize tpM t c cs sd M ++ [O.dict (kvK rowK A) false] = X1 at *
  generalize tpM t c cs2 sd2 M ++ [O.dict (kvK rowK A) false] = X2 at *
  generalize tpM t c cs2 sd2 M ++ [O.dict (kvK rowK (addT A (isort p, 1 + k))) false] = X3 at *
  simp [sSub, hty, List.lookup, g1, opAdd, hd, hgl, ea, g2]
theorem s17 (n t c many most : Nat) (M : Mem) (h : Tp t c M) (hc : ClM M) (h1 : 1 ≤ many) (h2 : many ≤ 1000) (h3 : most ≤ 100) : ∃ (A : Tm) (cs : List Int) (sd : Int), DS A many most ∧ run ds (n + 2) 17 [.loc t, .int many, .int most] M = .ok (.loc M.length) (tpM t c cs sd M ++ [O.dict (kvK rowK A) false]) := by
  obtain ⟨k, cs0, sd0, hk0, hk1, hd⟩ := s11 n t c ((most : Int) + 1) (M ++ [.dict [] false]) (h.app _) (by omega) (by omega)
  obtain ⟨k, rfl⟩ := Int.eq_ofNat_of_zero_le hk0
  rw [tpM_app h] at hd
  obtain ⟨ρ', m', hf, A, cs, sd, j, o4, o5, rfl, rfl, hDS, hj⟩ := sFor_inv (fe := run ds (n + 1)) (ρ := [some (.loc t), some (.int many), some (.int most), some (.loc M.length), none, none, none]) (m := M ++ [.dict [] false]) (m1 := tpM t c cs0 sd0 M ++ [.dict [] false]) (it := iRange1 (aCons (xCall 11 (aCons (xVar 0) (aCons (xBin opAdd (xVar 2) (xLit (.int 1))) (aNil)))) (aNil))) (p := .nm 4) (b := bl17) (w := []) (xs := rangeD 0 k)
    (fun rest ρ mm => ∃ (A : Tm) (cs : List Int) (sd : Int) (j : Nat) (o4 o5 : Option D), ρ = [some (.loc t), some (.int many), some (.int most), some (.loc M.length), o4, o5, none] ∧ mm = tpM t c cs sd M ++ [O.dict (kvK rowK A) false] ∧ DS A many j ∧ j + rest.length = k)
    (irange1_ev (by omega) (by simp [opAdd, hd])) (fun _ _ _ _ => rfl) ⟨[], cs0, sd0, 0, none, none, rfl, rfl, DS.nil many, by rw [rangeD_len]; omega⟩ (by
      rintro x rest ρ mm ⟨A, cs, sd, j, o4, o5, rfl, rfl, hDS, hj⟩
      simp only [List.length_cons] at hj
      obtain ⟨A', cs', sd', o5', hDS', ht⟩ := turn17 n t c many j (tpM t c cs sd M) A (some (.int most)) (some x) o5 none (h.tpM cs sd) (tpM_cl h hc cs sd) h1 h2 hDS (by omega)
      rw [tpM_tpM h.ne, tpM_len] at ht
      exact ⟨_, _, _, rfl, .inl ht, A', cs', sd', j + 1, some x, o5', rfl, rfl, hDS', by omega⟩)
  simp only [List.length_nil, Nat.add_zero] at hj
  subst hj
  refine ⟨A, cs, sd, ⟨hDS.gd, by have := hDS.len; omega, hDS.row, fun p => by have := hDS.bd p; omega⟩, ?_⟩
  have g0 : ∀ x, gcO M (.ok (.loc M.length) x) = .ok (.loc M.length) x := fun x => by simp [gcO, closed]
  have ed : d17 = sSeq (sSet 3 (xGc (xEmpty))) (sSeq (sFor (iRange1 (aCons (xCall 11 (aCons (xVar 0) (aCons (xBin opAdd (xVar 2) (xLit (.int 1))) (aNil)))) (aNil))) (.nm 4) bl17) (sRet (xGc (xVar 3)))) := rfl
  rw [r17, ed]
  simp [xEmpty, g0, hf]
end K39
end Mn
set_option Elab.async false
set_option linter.all false
set_option maxRecDepth 100000
set_option maxHeartbeats 1000000
namespace Mn
namespace K39
open PySem
/-- every row once -/
def plT (k : Nat) : Tm := (List.range k).map fun (i : Nat) => (([(i : Int)] : List Int), (1 : Int))
theorem pl_nd (k : Nat) : (keysT (plT k)).Nodup := by
  simp only [keysT, plT, List.map_map]
  refine List.pairwise_map.mpr ((List.nodup_range (n := k)).imp fun {a b} h e => h ?_)
  have : (a : Int) = (b : Int) := by simpa using e
  omega
theorem s20 (n k : Nat) (hk : k ≤ 1000) (m : Mem) : run ds (n + 1) 20 [.int k] m = .ok (.loc (m.length + 1)) (m ++ [.lst ((kvK rowK (plT k)).map pairD), .dict (kvK rowK (plT k)) false]) := by
  have z := sizeLine_is
  have hit : iRange1 (aCons (xVar 0) (aNil)) (run ds n) [some (.int k), none] m = .ok ⟨rangeD 0 k, [], none⟩ m := irange1_ev hk (by simp)
  have hlc := xLc_map (fe := run ds n) (ρ := [some (.int k), none]) (m := m) (m1 := m) (it := iRange1 (aCons (xVar 0) (aNil))) (p := .nm 1) (own := [1]) (e := xGc (xTup (aCons (xTup (aCons (xVar 1) (aNil))) (aCons (xLit (.int 1)) (aNil))))) (fun d => .tup [.tup [d], .int 1]) (xs := rangeD 0 k) (w := []) hit rfl (by rw [rangeD_len]; omega) fun d hd => by
    obtain ⟨j, rfl, _⟩ := rangeD_mem hd
    refine ⟨_, rfl, ?_⟩
    simp [wipeE]
  have e1 : (rangeD 0 k).map (fun d => D.tup [.tup [d], .int 1]) = (kvK rowK (plT k)).map pairD := by
    simp only [rangeD, kvK, plT, List.map_map]
    refine List.map_congr_left fun i _ => ?_
    simp [pairD, rowK]
  rw [e1] at hlc
  have hl : (plT k).length = k := by simp [plT]
  have hd : bDictP [.loc m.length] (m ++ [.lst ((kvK rowK (plT k)).map pairD)]) = some (.loc (m.length + 1), m ++ [.lst ((kvK rowK (plT k)).map pairD), .dict (kvK rowK (plT k)) false]) := by
    have e := dictP_kvK kfR (plT k) [] (fun _ _ => trivial) (by simpa using pl_nd k) (by simp [hl]; omega)
    have e0 : kvK rowK [] = [] := rfl
    rw [e0, List.nil_append] at e
    simp only [bDictP, itemsM, get_end, pairsD_map, e, kvK_len, hl]
    rw [if_pos ⟨by omega, by omega⟩]
    simp
  have g0 : ∀ x, gcO m (.ok (.loc (m.length + 1)) x) = .ok (.loc (m.length + 1)) x := fun x => by
    have : ¬ (m.length + 1 < m.length) := by omega
    simp [gcO, closed, this]
  generalize (kvK rowK (plT k)).map pairD = L at *
  simp [r20, d20, hlc, hd, g0]
def bl21 : DenS := sSet 1 (xGc (xBin opAdd (xVar 1) (xCallF bList (aCons (xVar 2) (aNil)))))
theorem loop21 (fe : FE) (o0 : Option D) (M : Mem) : ∀ (ts : Tm) (R : List Int) (E : Mem) (l : Nat) (o2 : Option D), (M ++ E)[l]? = some (.lst (R.map D.int)) → M.length ≤ l → (∀ o ∈ E, closedO 0 o = true) → (∀ t ∈ ts, t.1.length ≤ 1000) → R.length + 1000 * ts.length ≤ 1000000 →
    ∃ E' l' o2', forGo (bl21 fe) (.nm 2) [] (ts.map fR) [o0, some (.loc l), o2] (M ++ E) = .next [o0, some (.loc l'), o2'] (M ++ E') ∧ (M ++ E')[l']? = some (.lst ((R ++ ts.flatMap (·.1)).map D.int)) ∧ M.length ≤ l' ∧ (∀ o ∈ E', closedO 0 o = true)
  | [], R, E, l, o2, h, hl, hE, _, _ => ⟨E, l, o2, by simp [forGo], by simpa using h, hl, hE⟩
  | t :: ts, R, E, l, o2, h, hl, hE, hs, hb => by
    have z := sizeLine_is
    simp only [List.length_cons] at hb
    have ht := hs t (by simp)
    have hll : l < (M ++ E).length := (List.getElem?_eq_some_iff.mp h).1
    have h2 : ((M ++ E) ++ [O.lst (t.1.map D.int)])[l]? = some (.lst (R.map D.int)) := app_get h
    have h3 : ((M ++ E) ++ [O.lst (t.1.map D.int)])[(M ++ E).length]? = some (.lst (t.1.map D.int)) := by simp
    have hadd : opAdd (.loc l) (.loc (M ++ E).length) ((M ++ E) ++ [.lst (t.1.map D.int)]) = some (.loc ((M ++ E).length + 1), (M ++ E) ++ [.lst (t.1.map D.int), .lst ((R ++ t.1).map D.int)]) := by
      simp only [opAdd, h2, h3, List.length_map]
      rw [if_pos (by omega)]
      simp
      omega
    have hlist : ∀ m, bList [rowK t.1] m = some (.loc m.length, m ++ [.lst (t.1.map D.int)]) := fun m => rfl
    have hg : ∀ x, gcO (M ++ E) (.ok (.loc ((M ++ E).length + 1)) x) = .ok (.loc ((M ++ E).length + 1)) x := fun x => by
      have : ¬ ((M ++ E).length + 1 < (M ++ E).length) := by omega
      simp only [gcO, closed, this, decide_false, Bool.false_eq_true, and_false, if_false]
    have hend : (M ++ (E ++ [O.lst (t.1.map D.int), .lst ((R ++ t.1).map D.int)]))[(M ++ E).length + 1]? = some (.lst ((R ++ t.1).map D.int)) := by
      rw [← List.append_assoc, List.getElem?_append_right (by omega)]; simp
    obtain ⟨E', l', o2', g1, g2, g3, g4⟩ := loop21 fe o0 M ts (R ++ t.1) (E ++ [.lst (t.1.map D.int), .lst ((R ++ t.1).map D.int)]) ((M ++ E).length + 1) (some (rowK t.1)) hend (by simp; omega) (fun o ho => by
      rcases List.mem_append.mp ho with ho | ho
      · exact hE o ho
      · simp only [List.mem_cons, List.not_mem_nil, or_false] at ho
        rcases ho with rfl | rfl <;> exact int_closed _) (fun x hx => hs x (by simp [hx])) (by simp; omega)
    refine ⟨E', l', o2', ?_, by simpa using g2, g3, g4⟩
    have hst : bl21 fe [o0, some (.loc l), some (rowK t.1)] (M ++ E) = .next [o0, some (.loc ((M ++ E).length + 1)), some (rowK t.1)] (M ++ (E ++ [.lst (t.1.map D.int), .lst ((R ++ t.1).map D.int)])) := by
      simp only [bl21, sSet_ev, xGc_ev, xBin_ev, xVar_ev, List.getElem?_cons_succ, List.getElem?_cons_zero, Out.bind_ok, xCallF_ev, aCons_ev, aNil_ev, hlist, Out.ofO_some, hadd, hg, ofE_ok]
      rw [List.append_assoc]
      rfl
    have hb2 : bindP (.nm 2) (fR t) [o0, some (.loc l), o2] = some [o0, some (.loc l), some (rowK t.1)] := rfl
    simp only [List.map_cons, forGo, watchOk_nil, if_true, hb2, hst]
    exact g1
theorem s21 (n a : Nat) (A : Tm) (M : Mem) (ha : M[a]? = some (.dict (kvK rowK A) false)) (hl : A.length ≤ 500) (hs : ∀ t ∈ A, t.1.length ≤ 1000) : ∃ E l, run ds (n + 1) 21 [.loc a] M = .ok (.loc l) (M ++ E) ∧ (M ++ E)[l]? = some (.lst ((A.flatMap (·.1)).map D.int)) ∧ M.length ≤ l ∧ ∀ o ∈ E, closedO 0 o = true := by
  have hal : a < M.length := (List.getElem?_eq_some_iff.mp ha).1
  have hlen : (M.set a (.dict (kvK rowK A) true)).length = M.length := by simp
  obtain ⟨E', l', o2', g1, g2, g3, g4⟩ := loop21 (run ds n) (some (.loc a)) (M.set a (.dict (kvK rowK A) true)) A [] [.lst []] M.length none (by rw [List.getElem?_append_right (by omega)]; simp) (by omega) (by simp [closedO, closeds]) hs (by simp; omega)
  rw [hlen] at g3
  have hi := iAny_dict (fe := run ds n) (ρ := [some (.loc a), some (.loc M.length), none]) (i := 0) (m := M ++ [.lst []]) (A := A) (K := rowK) rfl (app_get ha)
  have hf : sFor (iAny (xVar 0)) (.nm 2) bl21 (run ds n) [some (.loc a), some (.loc M.length), none] (M ++ [.lst []]) = .next [some (.loc a), some (.loc l'), o2'] (M ++ E') := by
    unfold sFor
    rw [hi]
    simp only [ofE_ok, lock_app ha]
    have e1 : (A.map fun t => rowK t.1) = A.map fR := rfl
    rw [e1, g1]
    simp only [unlockS, unlock_app ha]
  have g2' : (M ++ E')[l']? = some (.lst ((A.flatMap (·.1)).map D.int)) := by
    rw [List.getElem?_append_right (by omega)] at g2
    rw [hlen] at g2
    rw [List.getElem?_append_right (by omega)]
    simpa using g2
  refine ⟨E', l', ?_, g2', g3, g4⟩
  have g0 : ∀ x, gcO M (.ok (.loc M.length) x) = .ok (.loc M.length) x := fun x => by simp [gcO, closed]
  have g5 : ∀ x, gcO M (.ok (.loc l') x) = .ok (.loc l') x := fun x => by
    have : ¬ l' < M.length := by omega
    simp [gcO, closed, this]
  have ed : d21 = sSeq (sSet 1 (xGc (xLst (aNil)))) (sSeq (sFor (iAny (xVar 0)) (.nm 2) bl21) (sRet (xGc (xVar 1)))) := rfl
  rw [r21, ed]
  simp [g0, hf, g5]
/-! ### what later stores keep -/
structure Fr (t c : Nat) (M M' : Mem) : Prop where
  len : M.length ≤ M'.length
  tp : Tp t c M'
  cl : ClM M'
  keep : ∀ i, i ≠ t → i ≠ c → i < M.length → M'[i]? = M[i]?
theorem Fr.refl {t c : Nat} {M : Mem} (h : Tp t c M) (hc : ClM M) : Fr t c M M := ⟨Nat.le_refl _, h, hc, fun _ _ _ _ => rfl⟩
theorem Fr.trans {t c : Nat} {M M' M'' : Mem} (h : Fr t c M M') (g : Fr t c M' M'') : Fr t c M M'' := ⟨Nat.le_trans h.len g.len, g.tp, g.cl, fun i h1 h2 h3 => by rw [g.keep i h1 h2 (Nat.lt_of_lt_of_le h3 h.len), h.keep i h1 h2 h3]⟩
theorem Fr.tape {t c : Nat} {M M' : Mem} (h : Fr t c M M') (cs : List Int) (sd : Int) : Fr t c M (tpM t c cs sd M') := ⟨by rw [tpM_len]; exact h.len, h.tp.tpM cs sd, tpM_cl h.tp h.cl cs sd, fun i h1 h2 h3 => by rw [tpM_get h1 h2]; exact h.keep i h1 h2 h3⟩
theorem Fr.app {t c : Nat} {M M' : Mem} (h : Fr t c M M') {E : Mem} (hE : ∀ o ∈ E, closedO 0 o = true) : Fr t c M (M' ++ E) := ⟨by have := h.len; simp; omega, h.tp.app E, fun o ho => by
  rcases List.mem_append.mp ho with ho | ho
  · exact closedO_mono (by simp) o (h.cl o ho)
  · exact closedO_mono (Nat.zero_le _) o (hE o ho), fun i h1 h2 h3 => by rw [List.getElem?_append_left (Nat.lt_of_lt_of_le h3 h.len)]; exact h.keep i h1 h2 h3⟩
theorem Fr.get {t c : Nat} {M M' : Mem} (h : Fr t c M M') {i : Nat} {o : O} (h1 : i ≠ t) (h2 : i ≠ c) (hi : M[i]? = some o) : M'[i]? = some o := by rw [h.keep i h1 h2 (List.getElem?_eq_some_iff.mp hi).1]; exact hi
theorem fr_gc {t c : Nat} {M M' : Mem} (h0 : Tp t c M) (hc : ClM M) (h : Fr t c M M') (v : D) : ∃ M'', gcO M (.ok v M') = .ok v M'' ∧ Fr t c M M'' ∧ (closed M.length v = false → M'' = M') := by
  by_cases q : cutOk M M' = true ∧ closed M.length v = true
  · refine ⟨M'.take M.length, by simp [gcO, q.1, q.2], ⟨by rw [List.length_take, Nat.min_eq_left h.len]; exact Nat.le_refl _, ?_, ?_, fun i h1 h2 h3 => ?_⟩, fun e => by rw [q.2] at e; cases e⟩
    · obtain ⟨cs, sd, h1, h2⟩ := h.tp.ex
      obtain ⟨l1, l2⟩ := h0.lt
      exact ⟨h.tp.ne, cs, sd, by rw [List.getElem?_take_of_lt l1]; exact h1, by rw [List.getElem?_take_of_lt l2]; exact h2⟩
    · intro o ho
      have hl : (M'.take M.length).length = M.length := by rw [List.length_take, Nat.min_eq_left h.len]
      have hcut := q.1
      simp only [cutOk, Bool.or_eq_true, Bool.and_eq_true, decide_eq_true_eq, List.all_eq_true] at hcut
      rw [hl]
      rcases hcut with e | e
      · have e' : M'.take M.length = M := by simpa using e
        rw [e'] at ho
        exact hc o ho
      · exact e.2 o ho
    · rw [List.getElem?_take_of_lt h3]; exact h.keep i h1 h2 h3
  · refine ⟨M', by simp only [gcO]; rw [if_neg q], h, fun _ => rfl⟩
end K39
end Mn
set_option Elab.async false
set_option linter.all false
set_option maxRecDepth 100000
set_option maxHeartbeats 1000000
namespace Mn
namespace K39
open PySem
/-! ### what was drawn in a turn, with no store in sight -/
theorem toldO_some {S : Int → Tm} {b : Nat} (hb : 1 ≤ b) : ∀ {p : List Int} {A : Tm}, (∀ r ∈ p, (S r).length ≤ b) → A.length * b ^ p.length ≤ 2000 → (toldO S p A).isSome = true
  | [], A, _, _ => rfl
  | r :: p, A, h, hl => by
    have h1 : (mulT A (S r)).length ≤ A.length * b := Nat.le_trans (mul_len _ _) (Nat.mul_le_mul_left _ (h r (by simp)))
    have h2 : A.length * b ^ (p.length + 1) = A.length * b * b ^ p.length := by rw [Nat.pow_succ, Nat.mul_assoc, Nat.mul_comm b]
    rw [List.length_cons, h2] at hl
    have h3 : 1 ≤ b ^ p.length := Nat.one_le_pow _ _ (by omega)
    have h4 : A.length * b * 1 ≤ A.length * b * b ^ p.length := Nat.mul_le_mul_left _ h3
    simp only [toldO]
    rw [if_pos (by omega)]
    exact toldO_some hb (fun x hx => h x (by simp [hx])) (Nat.le_trans (Nat.mul_le_mul_right _ h1) hl)
def SF (Sl : List Tm) (r : Int) : Tm := Sl.getD r.toNat []
structure TD (many : Nat) (W : Tm) (Sl : List Tm) (P : Tm) : Prop where
  m1 : 1 ≤ many
  m4 : many ≤ 4
  w : DS W many 4
  len : Sl.length = many
  ss : ∀ A ∈ Sl, DS A 5 5
  p : P.Perm (putAll (SF Sl) W)
section
variable {many : Nat} {W : Tm} {Sl : List Tm} {P A : Tm}
theorem DS.cf {m k : Nat} (h : DS A m k) : ∀ t ∈ A, 1 ≤ t.2 ∧ t.2 ≤ 3 * k := fun t ht => ⟨h.gd.pos t ht, by rw [← get_of h.gd.nd ht]; exact h.bd _⟩
theorem SF_at {Sl : List Tm} {r : Int} (h0 : 0 ≤ r) (h1 : r < (Sl.length : Int)) : ∃ k : Nat, r = k ∧ Sl[k]? = some (SF Sl r) ∧ SF Sl r ∈ Sl := by
  obtain ⟨k, rfl⟩ := Int.eq_ofNat_of_zero_le h0
  have hk : k < Sl.length := by omega
  have e : SF Sl (k : Int) = Sl[k] := by simp [SF, hk]
  exact ⟨k, rfl, by rw [e, List.getElem?_eq_getElem hk], by rw [e]; exact List.getElem_mem hk⟩
theorem TD.sf (h : TD many W Sl P) {w : List Int × Int} (hw : w ∈ W) {r : Int} (hr : r ∈ w.1) : ∃ k : Nat, r = k ∧ Sl[k]? = some (SF Sl r) ∧ DS (SF Sl r) 5 5 := by
  obtain ⟨h0, h1⟩ := (h.w.row w hw).2 r hr
  obtain ⟨k, e1, e2, e3⟩ := SF_at (Sl := Sl) h0 (by rw [h.len]; exact h1)
  exact ⟨k, e1, e2, h.ss _ e3⟩
theorem DS.vk (h : DS A 5 5) : Vk A 20 := ⟨h.gd, fun t ht r hr => by have := (h.row t ht).2 r hr; omega, by have := h.len; omega, fun t ht => by have := (h.row t ht).1; omega⟩
theorem TD.wsT (h : TD many W Sl P) : WS W (Sl.map shD) (SF Sl) where
  gd := h.w.gd
  len := by have := h.w.len; omega
  sz := fun w hw => by have := (h.w.row w hw).1; omega
  bd := fun w hw => by have := (h.w.cf w hw).2; omega
  rows := fun w hw r hr => by
    obtain ⟨k, rfl, e, d⟩ := h.sf hw hr
    exact ⟨by rw [atI_nat, List.getElem?_map, e]; rfl, d.vk, fun t ht => by have := (d.cf t ht).2; omega⟩
theorem TD.told (h : TD many W Sl P) {w : List Int × Int} (hw : w ∈ W) : (toldO (SF Sl) w.1 oneT).isSome = true ∧ (toldT (SF Sl) w.1 oneT).length ≤ 125 := by
  have h3 := (h.w.row w hw).1
  have hb : ∀ r ∈ w.1, (SF Sl r).length ≤ 5 := fun r hr => by
    obtain ⟨k, rfl, e, d⟩ := h.sf hw hr
    exact d.len
  have hp : (5 : Nat) ^ w.1.length ≤ 5 ^ 3 := Nat.pow_le_pow_right (by omega) h3
  have h1 : oneT.length = 1 := rfl
  exact ⟨toldO_some (by omega) hb (by rw [h1]; omega), Nat.le_trans (told_len hb) (by rw [h1]; omega)⟩
theorem TD.putl (h : TD many W Sl P) : (putAll (SF Sl) W).length ≤ 500 := by
  have := put_len fun w hw => (h.told hw).2
  have h2 := h.w.len
  omega
theorem told_rows {S : Int → Tm} {Q : Int → Prop} : ∀ {p : List Int} {A : Tm}, (∀ r ∈ p, ∀ t ∈ S r, ∀ x ∈ t.1, Q x) → (∀ t ∈ A, ∀ x ∈ t.1, Q x) → ∀ t ∈ toldT S p A, ∀ x ∈ t.1, Q x
  | [], A, _, h => h
  | r :: p, A, h, h2 => told_rows (p := p) (A := mulT A (S r)) (fun x hx => h x (by simp [hx])) (acc_keys_of (P := fun q => ∀ x ∈ q, Q x) fun t ht => by
    simp only [pairsT, List.mem_flatMap, List.mem_map] at ht
    obtain ⟨a, ha, b, hb, rfl⟩ := ht
    intro x hx
    rcases List.mem_append.mp ((isort_perm _).mem_iff.mp hx) with hx | hx
    · exact h2 a ha x hx
    · exact h r (by simp) b hb x hx)
theorem told_sz {S : Int → Tm} {k : Nat} : ∀ {p : List Int} {A : Tm} {j : Nat}, (∀ r ∈ p, ∀ t ∈ S r, t.1.length ≤ k) → (∀ t ∈ A, t.1.length ≤ j) → ∀ t ∈ toldT S p A, t.1.length ≤ j + k * p.length
  | [], A, j, _, h => by simpa [toldT] using h
  | r :: p, A, j, h, h2 => by
    have := told_sz (S := S) (k := k) (p := p) (A := mulT A (S r)) (j := j + k) (fun x hx => h x (by simp [hx])) (acc_keys_of (P := fun q => q.length ≤ j + k) fun t ht => by
      simp only [pairsT, List.mem_flatMap, List.mem_map] at ht
      obtain ⟨a, ha, b, hb, rfl⟩ := ht
      have e1 := h2 a ha
      have e2 := h r (by simp) b hb
      show (isort _).length ≤ _
      rw [isort_len, List.length_append]; omega)
    intro t ht
    have := this t ht
    rw [List.length_cons, Nat.mul_succ]; omega
theorem put_of {S : Int → Tm} {W : Tm} {Q : List Int → Prop} (h : ∀ w ∈ W, ∀ t ∈ toldT S w.1 oneT, Q t.1) : ∀ t ∈ putAll S W, Q t.1 := acc_keys_of fun t ht => by
  simp only [termsT, List.mem_flatMap, List.mem_map] at ht
  obtain ⟨w, hw, u, hu, rfl⟩ := ht
  exact h w hw u hu
theorem TD.putq (h : TD many W Sl P) : ∀ t ∈ putAll (SF Sl) W, t.1.length ≤ 9 ∧ ∀ r ∈ t.1, 0 ≤ r ∧ r < 5 := put_of (Q := fun q => q.length ≤ 9 ∧ ∀ r ∈ q, 0 ≤ r ∧ r < 5) fun w hw t ht => by
  have h3 := (h.w.row w hw).1
  refine ⟨?_, told_rows (fun r hr u hu => ?_) (by simp [oneT]) t ht⟩
  · have := told_sz (k := 3) (j := 0) (fun r hr u hu => ?_) (by simp [oneT]) t ht
    · omega
    · obtain ⟨k, rfl, e, d⟩ := h.sf hw hr
      exact (d.row u hu).1
  · obtain ⟨k, rfl, e, d⟩ := h.sf hw hr
    exact (d.row u hu).2
theorem TD.putg (h : TD many W Sl P) : Gd (putAll (SF Sl) W) := acc_good (fun t ht => by
    simp only [termsT, List.mem_flatMap, List.mem_map] at ht
    obtain ⟨w, hw, u, hu, rfl⟩ := ht
    exact (told_good (fun r hr t ht => by obtain ⟨k, rfl, e, d⟩ := h.sf hw hr; exact d.gd.pos t ht) one_good).srt u hu) fun t ht => by
    simp only [termsT, List.mem_flatMap, List.mem_map] at ht
    obtain ⟨w, hw, u, hu, rfl⟩ := ht
    have a1 := (told_good (fun r hr t ht => by obtain ⟨k, rfl, e, d⟩ := h.sf hw hr; exact d.gd.pos t ht) one_good).pos u hu
    have a2 := h.w.gd.pos w hw
    show 1 ≤ u.2 * w.2
    have := Int.mul_le_mul a1 a2 (by omega) (by omega)
    omega
theorem TD.pg (h : TD many W Sl P) : Gd P := h.putg.perm h.p.symm
theorem TD.pq (h : TD many W Sl P) : ∀ t ∈ P, t.1.length ≤ 9 ∧ ∀ r ∈ t.1, 0 ≤ r ∧ r < 5 := fun t ht => h.putq t (h.p.mem_iff.mp ht)
theorem TD.pl (h : TD many W Sl P) : P.length ≤ 500 := by rw [h.p.length_eq]; exact h.putl
theorem TD.psh (h : TD many W Sl P) : shD (putAll (SF Sl) W) = shD P := sh_perm h.putg h.p.symm
/-- the numbers -/
theorem TD.num (h : TD many W Sl P) (f : Int → Int) : numT f P = numT (fun r => (Sl.map (numT f)).getD r.toNat 0) W := by
  rw [numT_perm h.p, numT_putAll]
  refine numT_congr fun t ht r hr => ?_
  obtain ⟨k, rfl, e, d⟩ := h.sf ht hr
  simp [List.getD_eq_getElem?_getD, e]
end
end K39
end Mn
set_option Elab.async false
set_option linter.all false
set_option maxRecDepth 100000
set_option maxHeartbeats 1000000
namespace Mn
namespace K39
open PySem
def e22_0 : DenS := sSet 1 (xGc (xCall 10 (aCons (xVar 0) (aNil))))
def e22_1 : DenS := sIf (tGc (tNt (tVal (xCall 13 (aCons (xLit (.int 2000)) (aCons (xLit (.int 2000)) (aNil))))))) (sRet (xGc (xLit (.bl false)))) (sNil)
def e22_2 : DenS := sFor (iRange1 (aCons (xLit (.int 4)) (aNil))) (.nm 2) (sSeq (sSet 4 (xGc (xBin opAdd (xLit (.int 1)) (xCall 11 (aCons (xVar 1) (aCons (xLit (.int 4)) (aNil))))))) (sSeq (sSet 5 (xGc (xCall 17 (aCons (xVar 1) (aCons (xVar 4) (aCons (xLit (.int 4)) (aNil))))))) (sSeq (sSet 6 (xLc (iRange1 (aCons (xVar 4) (aNil))) (.nm 14) (tYesD) (xGc (xCall 17 (aCons (xVar 1) (aCons (xLit (.int 5)) (aCons (xCall 12 (aCons (xVar 1) (aCons (xLst (aCons (xLit (.int 1)) (aCons (xLit (.int 3)) (aCons (xLit (.int 5)) (aNil))))) (aNil)))) (aNil)))))) [14])) (sSeq (sSet 7 (xGc (xCall 18 (aCons (xVar 5) (aCons (xVar 6) (aNil)))))) (sSeq (sSet 8 (xGc (xTup (aCons (xCall 15 (aCons (xVar 5) (aNil))) (aCons (xCallF bTuple (aCons (xLc (iAny (xVar 6)) (.nm 15) (tYesD) (xGc (xCall 15 (aCons (xVar 15) (aNil)))) [15]) (aNil))) (aNil)))))) (sSeq (sSet 9 (xGc (xCall 16 (aCons (xBin opIx (xVar 8) (xLit (.int 0))) (aCons (xBin opIx (xVar 8) (xLit (.int 1))) (aNil)))))) (sSeq (sIf (tGc (tNt (tVal (xCall 13 (aCons (xVar 9) (aCons (xIf (tB (xBin opEqS (xVar 7) (xLit (.str "far")))) (xVar 7) (xCall 15 (aCons (xVar 7) (aNil)))) (aNil))))))) (sRet (xGc (xLit (.bl false)))) (sNil)) (sSeq (sSet 10 (xLc (iRange1 (aCons (xLit (.int 5)) (aNil))) (.nm 14) (tYesD) (xGc (xCall 11 (aCons (xVar 1) (aCons (xLit (.int 4)) (aNil))))) [14])) (sSeq (sIf (tGc (tAn (tB (xBin opNeS (xVar 7) (xLit (.str "far")))) (tB (xBin opNe (xCall 19 (aCons (xVar 7) (aCons (xVar 10) (aNil)))) (xCall 19 (aCons (xVar 5) (aCons (xLc (iAny (xVar 6)) (.nm 15) (tYesD) (xGc (xCall 19 (aCons (xVar 15) (aCons (xVar 10) (aNil))))) [15]) (aNil)))))))) (sRet (xGc (xLit (.bl false)))) (sNil)) (sSeq (sSet 11 (xGc (xCallF bTuple (aCons (xLc (iRange1 (aCons (xVar 4) (aNil))) (.nm 14) (tYesD) (xGc (xTup (aCons (xTup (aCons (xTup (aCons (xVar 14) (aCons (xLit (.int 1)) (aNil)))) (aNil))) (aCons (xLit (.int 1)) (aNil))))) [14]) (aNil))))) (sSeq (sIf (tGc (tOo (tNt (tVal (xCall 13 (aCons (xCall 16 (aCons (xBin opIx (xVar 8) (xLit (.int 0))) (aCons (xCallF bTuple (aCons (xLc (iAny (xVar 11)) (.nm 16) (tYesD) (xGc (xTup (aCons (xVar 16) (aNil)))) [16]) (aNil))) (aNil)))) (aCons (xBin opIx (xVar 8) (xLit (.int 0))) (aNil)))))) (tB (xBin opNe (xCall 16 (aCons (xTup (aCons (xTup (aCons (xTup (aNil)) (aCons (xLit (.int 1)) (aNil)))) (aNil))) (aCons (xTup (aNil)) (aNil)))) (xTup (aCons (xTup (aCons (xTup (aNil)) (aCons (xLit (.int 1)) (aNil)))) (aNil))))))) (sRet (xGc (xLit (.bl false)))) (sNil)) (sSeq (sSet 12 (xGc (xCall 21 (aCons (xVar 5) (aNil))))) (sSeq (sSet 13 (xGc (xLst (aCons (xLit .non) (aCons (xLst (aNil)) (aCons (xTup (aCons (xTup (aNil)) (aNil))) (aCons (xTup (aCons (xTup (aCons (xTup (aCons (xTup (aCons (xLit (.int 0)) (aCons (xLit (.int 0)) (aNil)))) (aNil))) (aCons (xLit (.int 1)) (aNil)))) (aNil))) (aCons (xTup (aCons (xTup (aCons (xTup (aCons (xTup (aCons (xLit (.int 1)) (aCons (xLit (.int 1)) (aNil)))) (aCons (xTup (aCons (xLit (.int 0)) (aCons (xLit (.int 1)) (aNil)))) (aNil)))) (aCons (xLit (.int 1)) (aNil)))) (aNil))) (aCons (xTup (aCons (xTup (aCons (xTup (aNil)) (aCons (xLit (.int 0)) (aNil)))) (aNil))) (aCons (xTup (aCons (xTup (aCons (xTup (aNil)) (aCons (xLit (.bl true)) (aNil)))) (aNil))) (aCons (xTup (aCons (xTup (aCons (xTup (aCons (xTup (aCons (xLit (.int 40)) (aCons (xLit (.int 1)) (aNil)))) (aNil))) (aCons (xLit (.int 1)) (aNil)))) (aNil))) (aNil)))))))))))) (sSeq (sIf (tGc (tOo (tB (xBin opNe (xCall 16 (aCons (xCall 12 (aCons (xVar 1) (aCons (xVar 13) (aNil)))) (aCons (xBin opIx (xVar 8) (xLit (.int 1))) (aNil)))) (xLit (.str "sum")))) (tOo (tB (xBin opNe (xCall 16 (aCons (xBin opIx (xVar 8) (xLit (.int 0))) (aCons (xCallF bList (aCons (xBin opIx (xVar 8) (xLit (.int 1))) (aNil))) (aNil)))) (xLit (.str "sum")))) (tB (xBin opNe (xCall 16 (aCons (xBin opIx (xVar 8) (xLit (.int 0))) (aCons (xBin opAdd (xBin opIx (xVar 8) (xLit (.int 1))) (xTup (aCons (xLit .non) (aNil)))) (aNil)))) (xLit (.str "sum"))))))) (sRet (xGc (xLit (.bl false)))) (sNil)) (sIf (tGc (tAn (tB (xBin opGt (xCallF bLen (aCons (xVar 12) (aNil))) (xLit (.int 0)))) (tB (xBin opNe (xCall 16 (aCons (xBin opIx (xVar 8) (xLit (.int 0))) (aCons (xSl (xBin opIx (xVar 8) (xLit (.int 1))) (oNone) (oSome (xCallF bMax (aCons (xVar 12) (aNil))))) (aNil)))) (xLit (.str "sum")))))) (sRet (xGc (xLit (.bl false)))) (sNil))))))))))))))))
def e22_3 : DenS := sSet 3 (xGc (xCallF bTuple (aCons (xLc (iRange1 (aCons (xLit (.int 39)) (aNil))) (.nm 14) (tYesD) (xGc (xTup (aCons (xTup (aCons (xTup (aCons (xVar 14) (aCons (xLit (.int 1)) (aNil)))) (aNil))) (aCons (xLit (.int 1)) (aNil))))) [14]) (aNil))))
def e22_4 : DenS := sRet (xGc (xAnd (xBin opEq (xCall 16 (aCons (xTup (aCons (xTup (aCons (xTup (aCons (xTup (aCons (xLit (.int 0)) (aCons (xLit (.int 2)) (aNil)))) (aNil))) (aCons (xLit (.int 1)) (aNil)))) (aNil))) (aCons (xTup (aCons (xVar 3) (aNil))) (aNil)))) (xCall 15 (aCons (xCall 14 (aCons (xCall 20 (aCons (xLit (.int 39)) (aNil))) (aCons (xCall 20 (aCons (xLit (.int 39)) (aNil))) (aNil)))) (aNil)))) (xBin opEq (xCall 16 (aCons (xTup (aCons (xTup (aCons (xTup (aCons (xTup (aCons (xLit (.int 0)) (aCons (xLit (.int 3)) (aNil)))) (aNil))) (aCons (xLit (.int 1)) (aNil)))) (aNil))) (aCons (xTup (aCons (xVar 3) (aNil))) (aNil)))) (xLit (.str "far")))))
theorem ed22 : d22 = sSeq e22_0 (sSeq e22_1 (sSeq e22_2 (sSeq e22_3 (e22_4)))) := rfl
def c22_0 : DenS := sSet 4 (xGc (xBin opAdd (xLit (.int 1)) (xCall 11 (aCons (xVar 1) (aCons (xLit (.int 4)) (aNil))))))
def c22_1 : DenS := sSet 5 (xGc (xCall 17 (aCons (xVar 1) (aCons (xVar 4) (aCons (xLit (.int 4)) (aNil))))))
def c22_2 : DenS := sSet 6 (xLc (iRange1 (aCons (xVar 4) (aNil))) (.nm 14) (tYesD) (xGc (xCall 17 (aCons (xVar 1) (aCons (xLit (.int 5)) (aCons (xCall 12 (aCons (xVar 1) (aCons (xLst (aCons (xLit (.int 1)) (aCons (xLit (.int 3)) (aCons (xLit (.int 5)) (aNil))))) (aNil)))) (aNil)))))) [14])
def c22_3 : DenS := sSet 7 (xGc (xCall 18 (aCons (xVar 5) (aCons (xVar 6) (aNil)))))
def c22_4 : DenS := sSet 8 (xGc (xTup (aCons (xCall 15 (aCons (xVar 5) (aNil))) (aCons (xCallF bTuple (aCons (xLc (iAny (xVar 6)) (.nm 15) (tYesD) (xGc (xCall 15 (aCons (xVar 15) (aNil)))) [15]) (aNil))) (aNil)))))
def c22_5 : DenS := sSet 9 (xGc (xCall 16 (aCons (xBin opIx (xVar 8) (xLit (.int 0))) (aCons (xBin opIx (xVar 8) (xLit (.int 1))) (aNil)))))
def c22_6 : DenS := sIf (tGc (tNt (tVal (xCall 13 (aCons (xVar 9) (aCons (xIf (tB (xBin opEqS (xVar 7) (xLit (.str "far")))) (xVar 7) (xCall 15 (aCons (xVar 7) (aNil)))) (aNil))))))) (sRet (xGc (xLit (.bl false)))) (sNil)
def c22_7 : DenS := sSet 10 (xLc (iRange1 (aCons (xLit (.int 5)) (aNil))) (.nm 14) (tYesD) (xGc (xCall 11 (aCons (xVar 1) (aCons (xLit (.int 4)) (aNil))))) [14])
def c22_8 : DenS := sIf (tGc (tAn (tB (xBin opNeS (xVar 7) (xLit (.str "far")))) (tB (xBin opNe (xCall 19 (aCons (xVar 7) (aCons (xVar 10) (aNil)))) (xCall 19 (aCons (xVar 5) (aCons (xLc (iAny (xVar 6)) (.nm 15) (tYesD) (xGc (xCall 19 (aCons (xVar 15) (aCons (xVar 10) (aNil))))) [15]) (aNil)))))))) (sRet (xGc (xLit (.bl false)))) (sNil)
def c22_9 : DenS := sSet 11 (xGc (xCallF bTuple (aCons (xLc (iRange1 (aCons (xVar 4) (aNil))) (.nm 14) (tYesD) (xGc (xTup (aCons (xTup (aCons (xTup (aCons (xVar 14) (aCons (xLit (.int 1)) (aNil)))) (aNil))) (aCons (xLit (.int 1)) (aNil))))) [14]) (aNil))))
def c22_10 : DenS := sIf (tGc (tOo (tNt (tVal (xCall 13 (aCons (xCall 16 (aCons (xBin opIx (xVar 8) (xLit (.int 0))) (aCons (xCallF bTuple (aCons (xLc (iAny (xVar 11)) (.nm 16) (tYesD) (xGc (xTup (aCons (xVar 16) (aNil)))) [16]) (aNil))) (aNil)))) (aCons (xBin opIx (xVar 8) (xLit (.int 0))) (aNil)))))) (tB (xBin opNe (xCall 16 (aCons (xTup (aCons (xTup (aCons (xTup (aNil)) (aCons (xLit (.int 1)) (aNil)))) (aNil))) (aCons (xTup (aNil)) (aNil)))) (xTup (aCons (xTup (aCons (xTup (aNil)) (aCons (xLit (.int 1)) (aNil)))) (aNil))))))) (sRet (xGc (xLit (.bl false)))) (sNil)
def c22_11 : DenS := sSet 12 (xGc (xCall 21 (aCons (xVar 5) (aNil))))
def c22_12 : DenS := sSet 13 (xGc (xLst (aCons (xLit .non) (aCons (xLst (aNil)) (aCons (xTup (aCons (xTup (aNil)) (aNil))) (aCons (xTup (aCons (xTup (aCons (xTup (aCons (xTup (aCons (xLit (.int 0)) (aCons (xLit (.int 0)) (aNil)))) (aNil))) (aCons (xLit (.int 1)) (aNil)))) (aNil))) (aCons (xTup (aCons (xTup (aCons (xTup (aCons (xTup (aCons (xLit (.int 1)) (aCons (xLit (.int 1)) (aNil)))) (aCons (xTup (aCons (xLit (.int 0)) (aCons (xLit (.int 1)) (aNil)))) (aNil)))) (aCons (xLit (.int 1)) (aNil)))) (aNil))) (aCons (xTup (aCons (xTup (aCons (xTup (aNil)) (aCons (xLit (.int 0)) (aNil)))) (aNil))) (aCons (xTup (aCons (xTup (aCons (xTup (aNil)) (aCons (xLit (.bl true)) (aNil)))) (aNil))) (aCons (xTup (aCons (xTup (aCons (xTup (aCons (xTup (aCons (xLit (.int 40)) (aCons (xLit (.int 1)) (aNil)))) (aNil))) (aCons (xLit (.int 1)) (aNil)))) (aNil))) (aNil)))))))))))
def c22_13 : DenS := sIf (tGc (tOo (tB (xBin opNe (xCall 16 (aCons (xCall 12 (aCons (xVar 1) (aCons (xVar 13) (aNil)))) (aCons (xBin opIx (xVar 8) (xLit (.int 1))) (aNil)))) (xLit (.str "sum")))) (tOo (tB (xBin opNe (xCall 16 (aCons (xBin opIx (xVar 8) (xLit (.int 0))) (aCons (xCallF bList (aCons (xBin opIx (xVar 8) (xLit (.int 1))) (aNil))) (aNil)))) (xLit (.str "sum")))) (tB (xBin opNe (xCall 16 (aCons (xBin opIx (xVar 8) (xLit (.int 0))) (aCons (xBin opAdd (xBin opIx (xVar 8) (xLit (.int 1))) (xTup (aCons (xLit .non) (aNil)))) (aNil)))) (xLit (.str "sum"))))))) (sRet (xGc (xLit (.bl false)))) (sNil)
def c22_14 : DenS := sIf (tGc (tAn (tB (xBin opGt (xCallF bLen (aCons (xVar 12) (aNil))) (xLit (.int 0)))) (tB (xBin opNe (xCall 16 (aCons (xBin opIx (xVar 8) (xLit (.int 0))) (aCons (xSl (xBin opIx (xVar 8) (xLit (.int 1))) (oNone) (oSome (xCallF bMax (aCons (xVar 12) (aNil))))) (aNil)))) (xLit (.str "sum")))))) (sRet (xGc (xLit (.bl false)))) (sNil)
def c22 : DenS := sSeq c22_0 (sSeq c22_1 (sSeq c22_2 (sSeq c22_3 (sSeq c22_4 (sSeq c22_5 (sSeq c22_6 (sSeq c22_7 (sSeq c22_8 (sSeq c22_9 (sSeq c22_10 (sSeq c22_11 (sSeq c22_12 (sSeq c22_13 (c22_14))))))))))))))
theorem ec22 : e22_2 = sFor (iRange1 (aCons (xLit (.int 4)) (aNil))) (.nm 2) c22 := rfl

/-- the law's own names -/
def Ev (sc : D) (t : Nat) (o2 o3 o4 o5 o6 o7 o8 o9 o10 o11 o12 o13 o14 o15 o16 : Option D) : Env := [some sc, some (.loc t), o2, o3, o4, o5, o6, o7, o8, o9, o10, o11, o12, o13, o14, o15, o16]
theorem f11 (t c : Nat) (many : Int) (M : Mem) (h : Tp t c M) (h1 : 0 < many) (h2 : many < 1000000) : ∃ r cs sd, 0 ≤ r ∧ r < many ∧ run ds 30 11 [.loc t, .int many] M = .ok (.int r) (tpM t c cs sd M) := s11 29 t c many M h h1 h2
theorem f12 (t c rl : Nat) (xs : List D) (M : Mem) (h : Tp t c M) (hr : M[rl]? = some (.lst xs)) (h1 : rl ≠ t) (h2 : rl ≠ c) (h0 : xs ≠ []) (hl : xs.length ≤ 1000) : ∃ x cs sd, x ∈ xs ∧ run ds 30 12 [.loc t, .loc rl] M = .ok x (tpM t c cs sd M) := s12 28 t c rl xs M h hr h1 h2 h0 hl
theorem f17 (t c many most : Nat) (M : Mem) (h : Tp t c M) (hc : ClM M) (h1 : 1 ≤ many) (h2 : many ≤ 1000) (h3 : most ≤ 100) : ∃ (A : Tm) (cs : List Int) (sd : Int), DS A many most ∧ run ds 30 17 [.loc t, .int many, .int most] M = .ok (.loc M.length) (tpM t c cs sd M ++ [O.dict (kvK rowK A) false]) := s17 28 t c many most M h hc h1 h2 h3
theorem kv_closed (A : Tm) (lk : Bool) : closedO 0 (.dict (kvK rowK A) lk) = true := kvK_closedO (Ok := fun _ => True) kfR (fun _ _ => trivial)
theorem Fr.app1 {t c : Nat} {M M' : Mem} (h : Fr t c M M') {E : Mem} (hE : ∀ o ∈ E, closedO M'.length o = true) : Fr t c M (M' ++ E) := ⟨by have := h.len; simp; omega, h.tp.app E, fun o ho => by
  rcases List.mem_append.mp ho with ho | ho
  · exact closedO_mono (by simp) o (h.cl o ho)
  · exact closedO_mono (by simp) o (hE o ho), fun i h1 h2 h3 => by rw [List.getElem?_append_left (Nat.lt_of_lt_of_le h3 h.len)]; exact h.keep i h1 h2 h3⟩
section
variable {sc : D} {t c : Nat} {o2 o3 o4 o5 o6 o7 o8 o9 o10 o11 o12 o13 o14 o15 o16 : Option D} {M : Mem}
theorem h0 (h : Tp t c M) (hc : ClM M) : ∃ (many : Nat) (M' : Mem), 1 ≤ many ∧ many ≤ 4 ∧ Fr t c M M' ∧ c22_0 (run ds 30) (Ev sc t o2 o3 o4 o5 o6 o7 o8 o9 o10 o11 o12 o13 o14 o15 o16) M = .next (Ev sc t o2 o3 (some (.int many)) o5 o6 o7 o8 o9 o10 o11 o12 o13 o14 o15 o16) M' := by
  obtain ⟨r, cs, sd, h1, h2, hd⟩ := f11 t c 4 M h (by omega) (by omega)
  obtain ⟨k, rfl⟩ := Int.eq_ofNat_of_zero_le h1
  have hg := gcO_new (r := .int (1 + (k : Int))) tpM_len (tpM_cl h hc cs sd) [] rfl
  rw [List.append_nil] at hg
  have fr := (Fr.refl h hc).tape cs sd
  refine ⟨1 + k, _, by omega, by omega, fr, ?_⟩
  generalize tpM t c cs sd M = Y at *
  simp [c22_0, Ev, hd, opAdd, hg]
theorem h1 {many : Nat} (h : Tp t c M) (hc : ClM M) (m1 : 1 ≤ many) (m4 : many ≤ 4) : ∃ (W : Tm) (w : Nat) (M' : Mem), DS W many 4 ∧ Fr t c M M' ∧ w ≠ t ∧ w ≠ c ∧ M'[w]? = some (.dict (kvK rowK W) false) ∧ c22_1 (run ds 30) (Ev sc t o2 o3 (some (.int many)) o5 o6 o7 o8 o9 o10 o11 o12 o13 o14 o15 o16) M = .next (Ev sc t o2 o3 (some (.int many)) (some (.loc w)) o6 o7 o8 o9 o10 o11 o12 o13 o14 o15 o16) M' := by
  obtain ⟨A, cs, sd, hA, hd⟩ := f17 t c many 4 M h hc m1 (by omega) (by omega)
  have hg : ∀ x, gcO M (.ok (.loc M.length) x) = .ok (.loc M.length) x := fun x => by simp [gcO, closed]
  have fr := ((Fr.refl h hc).tape cs sd).app (E := [O.dict (kvK rowK A) false]) (by simp [kv_closed])
  obtain ⟨l1, l2⟩ := h.lt
  have hl : (tpM t c cs sd M).length = M.length := tpM_len
  refine ⟨A, M.length, _, hA, fr, by omega, by omega, by rw [← hl]; simp, ?_⟩
  generalize tpM t c cs sd M ++ [O.dict (kvK rowK A) false] = Y at *
  have hd' : run ds 30 17 [.loc t, .int (many : Int), .int 4] M = .ok (.loc M.length) Y := hd
  simp [c22_1, Ev, hd', hg]
/-- the sums -/
def SumsAt (t c : Nat) (ls : List Nat) (Sl : List Tm) (M : Mem) : Prop := ls.length = Sl.length ∧ ∀ (i l : Nat) (A : Tm), ls[i]? = some l → Sl[i]? = some A → l ≠ t ∧ l ≠ c ∧ M[l]? = some (.dict (kvK rowK A) false)
theorem SumsAt.fr {M' : Mem} {ls : List Nat} {Sl : List Tm} (h : SumsAt t c ls Sl M) (f : Fr t c M M') : SumsAt t c ls Sl M' := ⟨h.1, fun i l A h1 h2 => by
  obtain ⟨a, b, e⟩ := h.2 i l A h1 h2
  exact ⟨a, b, f.get a b e⟩⟩
theorem SumsAt.put {ls : List Nat} {Sl : List Tm} (h : SumsAt t c ls Sl M) {l : Nat} {A : Tm} (a : l ≠ t) (b : l ≠ c) (e : M[l]? = some (.dict (kvK rowK A) false)) : SumsAt t c (ls ++ [l]) (Sl ++ [A]) M := ⟨by simp [h.1], fun i x B h1 h2 => by
  rcases Nat.lt_trichotomy i ls.length with q | q | q
  · rw [List.getElem?_append_left q] at h1
    rw [List.getElem?_append_left (by rw [← h.1]; exact q)] at h2
    exact h.2 i x B h1 h2
  · subst q
    simp at h1
    rw [h.1] at h2
    simp at h2
    subst h1; subst h2
    exact ⟨a, b, e⟩
  · rw [List.getElem?_eq_none (by simp; omega)] at h1
    cases h1⟩
theorem SumsAt.cl {ls : List Nat} {Sl : List Tm} (h : SumsAt t c ls Sl M) : closedO M.length (.lst (ls.map D.loc)) = true := by
  simp only [closedO, closeds_all, List.all_eq_true]
  intro d hd
  obtain ⟨l, hl, rfl⟩ := List.mem_map.mp hd
  obtain ⟨i, hi, e⟩ := List.mem_iff_getElem.mp hl
  have hi2 : i < Sl.length := by rw [← h.1]; exact hi
  obtain ⟨_, _, g⟩ := h.2 i l _ (by rw [List.getElem?_eq_getElem hi, e]) (List.getElem?_eq_getElem hi2)
  simpa [closed] using (List.getElem?_eq_some_iff.mp g).1
def e2 : Den := xGc (xCall 17 (aCons (xVar 1) (aCons (xLit (.int 5)) (aCons (xCall 12 (aCons (xVar 1) (aCons (xLst (aCons (xLit (.int 1)) (aCons (xLit (.int 3)) (aCons (xLit (.int 5)) (aNil))))) (aNil)))) (aNil)))))
theorem one2 {ρ : Env} (hρ : ρ[1]? = some (some (.loc t))) (h : Tp t c M) (hc : ClM M) : ∃ (l : Nat) (A : Tm) (M' : Mem), DS A 5 5 ∧ Fr t c M M' ∧ l ≠ t ∧ l ≠ c ∧ M'[l]? = some (.dict (kvK rowK A) false) ∧ e2 (run ds 30) ρ M = .ok (.loc l) M' := by
  have z := sizeLine_is
  obtain ⟨l1, l2⟩ := h.lt
  have f0 := (Fr.refl h hc).app (E := [O.lst [.int 1, .int 3, .int 5]]) (by simp [closedO, closeds, closed])
  obtain ⟨x, cs, sd, hx, hd⟩ := f12 t c M.length [.int 1, .int 3, .int 5] _ f0.tp (by simp) (by omega) (by omega) (by simp) (by simp)
  have f1 := f0.tape cs sd
  obtain ⟨k, rfl, hk⟩ : ∃ k : Nat, x = .int (k : Int) ∧ k ≤ 5 := by
    simp only [List.mem_cons, List.not_mem_nil, or_false] at hx
    rcases hx with rfl | rfl | rfl
    · exact ⟨1, rfl, by omega⟩
    · exact ⟨3, rfl, by omega⟩
    · exact ⟨5, rfl, by omega⟩
  have hl1 : (tpM t c cs sd (M ++ [O.lst [.int 1, .int 3, .int 5]])).length = M.length + 1 := by rw [tpM_len]; simp
  generalize tpM t c cs sd (M ++ [O.lst [.int 1, .int 3, .int 5]]) = Y at *
  obtain ⟨A, cs', sd', hA, hd2⟩ := f17 t c 5 k Y f1.tp f1.cl (by omega) (by omega) (by omega)
  have f2 := (f1.tape cs' sd').app (E := [O.dict (kvK rowK A) false]) (by simp [kv_closed])
  have hl2 : (tpM t c cs' sd' Y).length = Y.length := tpM_len
  have hat : (tpM t c cs' sd' Y ++ [O.dict (kvK rowK A) false])[Y.length]? = some (.dict (kvK rowK A) false) := by rw [← hl2]; simp
  have hA5 : DS A 5 5 := ⟨hA.gd, by have := hA.len; omega, hA.row, fun p => by have := hA.bd p; omega⟩
  refine ⟨Y.length, A, _, hA5, f2, by omega, by omega, hat, ?_⟩
  generalize tpM t c cs' sd' Y ++ [O.dict (kvK rowK A) false] = Z at *
  have hd2' : run ds 30 17 [.loc t, .int 5, .int (k : Int)] Y = .ok (.loc Y.length) Z := hd2
  have hg : ∀ x, gcO M (.ok (.loc Y.length) x) = .ok (.loc Y.length) x := fun x => by
    have : ¬ (Y.length < M.length) := by omega
    simp [gcO, closed, this]
  have hlst : ([D.int 1, .int 3, .int 5] : List D).length ≤ sizeLine := by rw [z]; simp
  simp [e2, hρ, z, hd, hd2', hg]
theorem h2 {many w : Nat} (h : Tp t c M) (hc : ClM M) (m1 : 1 ≤ many) (m4 : many ≤ 4) : ∃ (ls : List Nat) (Sl : List Tm) (s : Nat) (M' : Mem), Sl.length = many ∧ (∀ A ∈ Sl, DS A 5 5) ∧ SumsAt t c ls Sl M' ∧ Fr t c M M' ∧ s ≠ t ∧ s ≠ c ∧ M'[s]? = some (.lst (ls.map D.loc)) ∧ c22_2 (run ds 30) (Ev sc t o2 o3 (some (.int many)) (some (.loc w)) o6 o7 o8 o9 o10 o11 o12 o13 o14 o15 o16) M = .next (Ev sc t o2 o3 (some (.int many)) (some (.loc w)) (some (.loc s)) o7 o8 o9 o10 o11 o12 o13 o14 o15 o16) M' := by
  have z := sizeLine_is
  obtain ⟨l1, l2⟩ := h.lt
  have hit : iRange1 (aCons (xVar 4) (aNil)) (run ds 30) (Ev sc t o2 o3 (some (.int many)) (some (.loc w)) o6 o7 o8 o9 o10 o11 o12 o13 o14 o15 o16) M = .ok ⟨rangeD 0 many, [], none⟩ M := irange1_ev (by omega) (by simp [Ev])
  obtain ⟨acc, M', g1, ⟨ls, Sl, e, g2, g3, g4⟩, g5⟩ := xLc_inv (w := []) (fe := run ds 30) (e := e2) (own := [14]) (p := .nm 14) (fun acc X => ∃ (ls : List Nat) (Sl : List Tm), acc = ls.map D.loc ∧ (∀ A ∈ Sl, DS A 5 5) ∧ SumsAt t c ls Sl X ∧ Fr t c M X) hit ⟨[], [], rfl, by simp, ⟨rfl, by simp⟩, Fr.refl h hc⟩ (by rw [rangeD_len, z]; omega) (fun _ _ _ => by simp) fun x hx acc X ⟨ls, Sl, e, g2, g3, g4⟩ => by
    obtain ⟨l, A, X', i1, i2, i3, i4, i5, i6⟩ := one2 (ρ := (wipeE (Ev sc t o2 o3 (some (.int many)) (some (.loc w)) o6 o7 o8 o9 o10 o11 o12 o13 o14 o15 o16) [14]).set 14 (some x)) (by simp [Ev, wipeE]) g4.tp g4.cl
    refine ⟨_, .loc l, X', rfl, i6, ls ++ [l], Sl ++ [A], by simp [e], fun B hB => ?_, (g3.fr i2).put i3 i4 i5, g4.trans i2⟩
    rcases List.mem_append.mp hB with hB | hB
    · exact g2 B hB
    · simp at hB; subst hB; exact i1
  subst e
  have hl := g4.len
  have f2 := g4.app1 (E := [O.lst (ls.map D.loc)]) (by simpa using g3.cl)
  have hat : (M' ++ [O.lst (ls.map D.loc)])[M'.length]? = some (.lst (ls.map D.loc)) := by simp
  rw [rangeD_len, List.length_map] at g5
  refine ⟨ls, Sl, M'.length, _, by have := g3.1; omega, g2, g3.fr ((Fr.refl g4.tp g4.cl).app1 (by simpa using g3.cl)), f2, by omega, by omega, hat, ?_⟩
  have ec : c22_2 = sSet 6 (xLc (iRange1 (aCons (xVar 4) (aNil))) (.nm 14) (tYesD) e2 [14]) := rfl
  rw [ec, sSet_ev, g1]
  rfl
end
end K39
end Mn
set_option Elab.async false
set_option linter.all false
set_option maxRecDepth 100000
set_option maxHeartbeats 1000000
namespace Mn
namespace K39
open PySem
/-! ### what stands behind the draws -/
structure TM (t c many : Nat) (W : Tm) (Sl : List Tm) (P : Tm) (ls : List Nat) (w s d : Nat) (M : Mem) : Prop where
  tp : Tp t c M
  cl : ClM M
  td : TD many W Sl P
  w1 : w ≠ t
  w2 : w ≠ c
  s1 : s ≠ t
  s2 : s ≠ c
  d1 : d ≠ t
  d2 : d ≠ c
  hw : M[w]? = some (.dict (kvK rowK W) false)
  hs : M[s]? = some (.lst (ls.map D.loc))
  ss : SumsAt t c ls Sl M
  hd : M[d]? = some (.dict (kvK rowK P) false)
theorem TM.fr {t c many : Nat} {W P : Tm} {Sl : List Tm} {ls : List Nat} {w s d : Nat} {M M' : Mem} (h : TM t c many W Sl P ls w s d M) (f : Fr t c M M') : TM t c many W Sl P ls w s d M' := ⟨f.tp, f.cl, h.td, h.w1, h.w2, h.s1, h.s2, h.d1, h.d2, f.get h.w1 h.w2 h.hw, f.get h.s1 h.s2 h.hs, h.ss.fr f, f.get h.d1 h.d2 h.hd⟩
def decT (kvs : List (D × D)) : Tm := kvs.map fun q => match q.1, q.2 with
  | .tup xs, .int i => ((intsD xs).getD [], i)
  | _, _ => ([], 0)
theorem decT_kv (A : Tm) : decT (kvK rowK A) = A := by
  simp only [decT, kvK, List.map_map]
  rw [List.map_congr_left (g := id)]
  · simp
  · intro t _
    simp [rowK, intsD_map]
def tmAt (M : Mem) : D → Tm
  | .loc l => match M[l]? with
    | some (.dict kvs _) => decT kvs
    | _ => []
  | _ => []
theorem SumsAt.mem {t c : Nat} {ls : List Nat} {Sl : List Tm} {M : Mem} (h : SumsAt t c ls Sl M) {d : D} (hd : d ∈ ls.map D.loc) : ∃ l, d = .loc l ∧ tmAt M d ∈ Sl ∧ M[l]? = some (.dict (kvK rowK (tmAt M d)) false) := by
  obtain ⟨l, hl, rfl⟩ := List.mem_map.mp hd
  obtain ⟨i, hi, e⟩ := List.mem_iff_getElem.mp hl
  have hi2 : i < Sl.length := by rw [← h.1]; exact hi
  obtain ⟨_, _, g⟩ := h.2 i l _ (by rw [List.getElem?_eq_getElem hi, e]) (List.getElem?_eq_getElem hi2)
  have et : tmAt M (.loc l) = Sl[i] := by simp [tmAt, g, decT_kv]
  exact ⟨l, rfl, by rw [et]; exact List.getElem_mem hi2, by rw [et]; exact g⟩
theorem SumsAt.map {t c : Nat} {ls : List Nat} {Sl : List Tm} {M : Mem} (h : SumsAt t c ls Sl M) : (ls.map D.loc).map (tmAt M) = Sl := by
  apply List.ext_getElem (by simp [h.1])
  intro i h1 h2
  have h1' : i < ls.length := by simpa using h1
  obtain ⟨_, _, g⟩ := h.2 i ls[i] Sl[i] (List.getElem?_eq_getElem h1') (List.getElem?_eq_getElem h2)
  simp [tmAt, g, decT_kv]
theorem sh_closed (A : Tm) (hA : ∀ t ∈ A, t.1.Pairwise (· ≤ ·)) (n : Nat) : closed n (shD A) = true := kvK_items_closed (Ok := fun p => p.Pairwise (· ≤ ·)) kfP (fun q hq => by
  obtain ⟨t, ht, rfl⟩ := List.mem_map.mp hq
  exact hA t ht)
theorem gcO_app {M : Mem} {v : D} (hc : ClM M) (hv : closed M.length v = true) (x : Mem) : gcO M (.ok v (M ++ x)) = .ok v M := gcO_new rfl hc x hv
theorem gcO_me {M : Mem} {v : D} : gcO M (.ok v M) = .ok v M := by
  simp only [gcO]
  split <;> simp
theorem gcB_app {M : Mem} {b : Bool} (hc : ClM M) (x : Mem) : gcB M (.ok b (M ++ x)) = .ok b M := by
  simp [gcB, cutOk]
theorem f15 {A : Tm} {a : Nat} {M : Mem} (ga : Gd A) (hs : ∀ t ∈ A, t.1.length < 64) (hl : A.length ≤ 100000) (ha : M[a]? = some (.dict (kvK rowK A) false)) : run ds 30 15 [.loc a] M = .ok (shD A) M := s15 29 ga hs hl ha
theorem f13 (x : D) (m : Mem) (h : smB 4 x = true) : run ds 30 13 [x, x] m = .ok (.bl true) m := s13 4 x 25 m h
section
variable {sc : D} {t c many : Nat} {W P : Tm} {Sl : List Tm} {ls : List Nat} {w s d : Nat} {o2 o3 o7 o8 o9 o10 o11 o12 o13 o14 o15 o16 : Option D} {M : Mem}
theorem h3 (tp : Tp t c M) (cl : ClM M) (m1 : 1 ≤ many) (m4 : many ≤ 4) (hW : DS W many 4) (hl : Sl.length = many) (hS : ∀ A ∈ Sl, DS A 5 5) (w1 : w ≠ t) (w2 : w ≠ c) (hw : M[w]? = some (.dict (kvK rowK W) false)) (s1 : s ≠ t) (s2 : s ≠ c) (hs : M[s]? = some (.lst (ls.map D.loc))) (ss : SumsAt t c ls Sl M) :
    ∃ (P : Tm) (d : Nat) (M' : Mem), TM t c many W Sl P ls w s d M' ∧ Fr t c M M' ∧ c22_3 (run ds 30) (Ev sc t o2 o3 (some (.int many)) (some (.loc w)) (some (.loc s)) o7 o8 o9 o10 o11 o12 o13 o14 o15 o16) M = .next (Ev sc t o2 o3 (some (.int many)) (some (.loc w)) (some (.loc s)) (some (.loc d)) o8 o9 o10 o11 o12 o13 o14 o15 o16) M' := by
  have td0 : TD many W Sl (putAll (SF Sl) W) := ⟨m1, m4, hW, hl, hS, .refl _⟩
  obtain ⟨l1, l2⟩ := tp.lt
  obtain ⟨P, E, p1, p2, p3⟩ := (s18 (M := M) (W := W) (w := w) (s := s) (ls := ls.map D.loc) (S := SF Sl) 28 hw hW.gd (by have := hW.len; omega) (fun x hx => by have := (hW.cf x hx).2; have := (hW.row x hx).1; omega) hs (fun x hx r hr => by
    obtain ⟨k, rfl, e, dd⟩ := td0.sf hx hr
    have hk : k < Sl.length := (List.getElem?_eq_some_iff.mp e).1
    have hk' : k < ls.length := by rw [ss.1]; exact hk
    obtain ⟨_, _, g⟩ := ss.2 k ls[k] _ (List.getElem?_eq_getElem hk') e
    refine ⟨⟨ls[k], by rw [atI_nat, List.getElem?_map, List.getElem?_eq_getElem hk']; rfl, g⟩, ⟨dd.gd, by have := dd.len; omega, fun u hu => by have := (dd.row u hu).1; omega⟩, fun u hu => by have := (dd.row u hu).1; omega, fun u hu => by have := (dd.cf u hu).2; omega⟩) (fun x hx => ⟨(td0.told hx).1, by have := (td0.told hx).2; omega⟩) (by have := td0.putl; omega) : ∃ P E, P.Perm (putAll (SF Sl) W) ∧ (∀ o ∈ E, closedO 0 o = true) ∧ run ds 30 18 [.loc w, .loc s] M = .ok (.loc M.length) (M ++ (O.dict (kvK rowK P) false :: E)))
  have f := (Fr.refl tp cl).app (E := O.dict (kvK rowK P) false :: E) (fun o ho => by
    rcases List.mem_cons.mp ho with rfl | ho
    · exact kv_closed _ _
    · exact p2 o ho)
  have hg : ∀ x, gcO M (.ok (.loc M.length) x) = .ok (.loc M.length) x := fun x => by simp [gcO, closed]
  have hat : (M ++ (O.dict (kvK rowK P) false :: E))[M.length]? = some (.dict (kvK rowK P) false) := by simp
  refine ⟨P, M.length, _, ⟨f.tp, f.cl, ⟨m1, m4, hW, hl, hS, p1⟩, w1, w2, s1, s2, by omega, by omega, f.get w1 w2 hw, f.get s1 s2 hs, ss.fr f, hat⟩, f, ?_⟩
  generalize M ++ (O.dict (kvK rowK P) false :: E) = Y at *
  simp [c22_3, Ev, p3, hg]
def shown (W : Tm) (Sl : List Tm) : D := .tup [shD W, .tup (Sl.map shD)]
theorem h4 (h : TM t c many W Sl P ls w s d M) : c22_4 (run ds 30) (Ev sc t o2 o3 (some (.int many)) (some (.loc w)) (some (.loc s)) (some (.loc d)) o8 o9 o10 o11 o12 o13 o14 o15 o16) M = .next (Ev sc t o2 o3 (some (.int many)) (some (.loc w)) (some (.loc s)) (some (.loc d)) (some (shown W Sl)) o9 o10 o11 o12 o13 o14 o15 o16) M := by
  have z := sizeLine_is
  have td := h.td
  have hw := f15 (M := M) (a := w) td.w.gd (fun x hx => by have := (td.w.row x hx).1; omega) (by have := td.w.len; omega) h.hw
  have hlc := xLc_map (fe := run ds 30) (ρ := Ev sc t o2 o3 (some (.int many)) (some (.loc w)) (some (.loc s)) (some (.loc d)) o8 o9 o10 o11 o12 o13 o14 o15 o16) (m := M) (m1 := M) (it := iAny (xVar 6)) (p := .nm 15) (own := [15]) (e := xGc (xCall 15 (aCons (xVar 15) (aNil)))) (fun x => shD (tmAt M x)) (xs := ls.map D.loc) (w := [(s, .lst (ls.map D.loc))]) (by simp [Ev, h.hs]) (by simp [watchOk, h.hs]) (by rw [List.length_map, h.ss.1, td.len, z]; have := td.m4; omega) (fun x hx => by
    obtain ⟨l, rfl, g1, g2⟩ := h.ss.mem hx
    have dd := td.ss _ g1
    refine ⟨_, rfl, ?_⟩
    have := f15 (M := M) (a := l) dd.gd (fun x hx => by have := (dd.row x hx).1; omega) (by have := dd.len; omega) g2
    generalize shD (tmAt M (.loc l)) = X at *
    simp [Ev, wipeE, this, gcO_me])
  have em : (ls.map D.loc).map (fun x => shD (tmAt M x)) = Sl.map shD := by
    have := congrArg (List.map shD) h.ss.map
    rw [List.map_map] at this
    exact this
  rw [em] at hlc
  have c1 : closed M.length (.tup [shD W, .tup (Sl.map shD)]) = true := by
    have a1 := sh_closed W td.w.gd.srt M.length
    have a2 : closeds M.length (Sl.map shD) = true := by
      simp only [closeds_all, List.all_map, List.all_eq_true]
      exact fun A hA => sh_closed A (td.ss A hA).gd.srt M.length
    simp [closed, closeds, a1, a2]
  have hg := fun x => gcO_app h.cl c1 x
  have hsl : Sl.length = many := td.len
  unfold shown
  generalize shD W = X at *
  generalize Sl.map shD = L at *
  have h2 : ([X, D.tup L] : List D).length ≤ sizeLine := by rw [z]; simp
  have hg' := hg [O.lst L]
  have hw' : run ds 30 15 [.loc w] M = .ok X M := hw
  simp only [c22_4, sSet_ev, xGc_ev, xTup_ev, aCons_ev, aNil_ev, xCall_ev, xVar_ev, Ev, List.getElem?_cons_succ, List.getElem?_cons_zero, Out.bind_ok, hw', xCallF_ev] at hlc ⊢
  rw [hlc]
  simp [h2, hg']
theorem DS.s3 {A : Tm} {j k : Nat} (h : DS A j k) (hj : j ≤ 40) (hk : k ≤ 2000) (n : Nat) (m : Mem) : run ds (n + 2) 3 [shD A, .int 40] m = .ok (.bl true) m := s3sh n A m h.gd (fun t ht r hr => by have := (h.row t ht).2 r hr; omega) (by have := h.len; omega)
theorem TD.s16 (h : TD many W Sl P) (m : Mem) : run ds 30 16 [shD W, .tup (Sl.map shD)] m = .ok (shD P) m := by
  refine s16ok 29 _ ?_
  refine ((s9r (W := W) (ss := Sl.map shD) (m := m) 23 (fun _ => true) (.ok (shD P) m) h.w.gd (by have := h.w.len; omega) (fun x hx => by have := (h.w.row x hx).1; omega) (by rw [List.length_map, h.len]; have := h.m4; omega) (h.w.s3 (by have := h.m4; omega) (by omega) 26 m) fun x hx => ?_).2 (fun x hx r hr => ?_)).1 _ ?_
  · obtain ⟨A, hA, rfl⟩ := List.mem_map.mp hx
    exact (h.ss A hA).s3 (by omega) (by omega) 26 m
  · rw [List.length_map, h.len]; exact ((h.w.row x hx).2 r hr).2
  · rw [← h.psh]
    exact s8 23 W _ _ m h.wsT (fun x hx => (h.told hx).1) (by have := h.putl; omega)
theorem h5 (h : TM t c many W Sl P ls w s d M) : c22_5 (run ds 30) (Ev sc t o2 o3 (some (.int many)) (some (.loc w)) (some (.loc s)) (some (.loc d)) (some (shown W Sl)) o9 o10 o11 o12 o13 o14 o15 o16) M = .next (Ev sc t o2 o3 (some (.int many)) (some (.loc w)) (some (.loc s)) (some (.loc d)) (some (shown W Sl)) (some (shD P)) o10 o11 o12 o13 o14 o15 o16) M := by
  have hd := h.td.s16 M
  unfold shown
  generalize shD W = X at *
  generalize Sl.map shD = L at *
  generalize shD P = Y at *
  simp [c22_5, Ev, hd, opIx, gcO_me]
theorem TD.sm (h : TD many W Sl P) : smB 4 (shD P) = true := sh_sm h.pg (by have := h.pl; omega) fun x hx => by have := (h.pq x hx).1; omega
theorem h6 (h : TM t c many W Sl P ls w s d M) : c22_6 (run ds 30) (Ev sc t o2 o3 (some (.int many)) (some (.loc w)) (some (.loc s)) (some (.loc d)) (some (shown W Sl)) (some (shD P)) o10 o11 o12 o13 o14 o15 o16) M = .next (Ev sc t o2 o3 (some (.int many)) (some (.loc w)) (some (.loc s)) (some (.loc d)) (some (shown W Sl)) (some (shD P)) o10 o11 o12 o13 o14 o15 o16) M := by
  have hs := f13 (shD P) M h.td.sm
  have hp := f15 (M := M) (a := d) h.td.pg (fun x hx => by have := (h.td.pq x hx).1; omega) (by have := h.td.pl; omega) h.hd
  have he : opEqS (.loc d) (.str "far") M = some (.bl false, M) := by simp [opEqS, h.hd]
  generalize shD P = Y at *
  generalize shown W Sl = Z at *
  simp [c22_6, Ev, hs, hp, he, gcO_me, truth]
end
end K39
end Mn
set_option Elab.async false
set_option linter.all false
set_option maxRecDepth 100000
set_option maxHeartbeats 1000000
namespace Mn
namespace K39
open PySem
theorem f19 {A : Tm} {a wl : Nat} {M : Mem} (ws : List Int) (ga : Gd A) (hw : M[wl]? = some (.lst (ws.map D.int))) (hb : ∀ x ∈ ws, 0 ≤ x ∧ x < 2 ^ 64) (ha : M[a]? = some (.dict (kvK rowK A) false)) (hr : ∀ t ∈ A, ∀ r ∈ t.1, 0 ≤ r ∧ r < (ws.length : Int)) : run ds 30 19 [.loc a, .loc wl] M = .ok (.int (numT (fun r => ws.getD r.toNat 0) A)) M := s19 29 ws wl ga hw hb ha hr
theorem fP_one (i : Int) : fP ([i], 1) = .tup [.tup [.tup [.int i, .int 1]], .int 1] := by
  have : cntT [i] = [([i], 1)] := by simp [cntT, usort, insI]
  simp [fP, pairD, prD, this, kvK, K1]
theorem sg_sh (i : Int) : shD (sgT i) = .tup [.tup [.tup [.tup [.int i, .int 1]], .int 1]] := by
  have h : (kvK prD (sgT i)).map pairD = [fP ([i], 1)] := rfl
  unfold shD
  rw [h, fP_one]
  simp [sortD]
theorem sg_good (i : Int) : Gd (sgT i) := ⟨by simp [keysT, sgT], by simp [sgT], by simp [sgT]⟩
/-- the worth of the rows -/
structure Wo (t c : Nat) (ws : List Int) (wl : Nat) (M : Mem) : Prop where
  n1 : wl ≠ t
  n2 : wl ≠ c
  at_ : M[wl]? = some (.lst (ws.map D.int))
  len : ws.length = 5
  bd : ∀ x ∈ ws, 0 ≤ x ∧ x ≤ 3
section
variable {sc : D} {t c many : Nat} {W P : Tm} {Sl : List Tm} {ls : List Nat} {w s d : Nat} {o2 o3 o9 o10 o11 o12 o13 o14 o15 o16 : Option D} {M : Mem}
theorem h7 {o4 o5 o6 o7 o8 : Option D} (tp : Tp t c M) (cl : ClM M) : ∃ (ws : List Int) (wl : Nat) (M' : Mem), Wo t c ws wl M' ∧ Fr t c M M' ∧ c22_7 (run ds 30) (Ev sc t o2 o3 o4 o5 o6 o7 o8 o9 o10 o11 o12 o13 o14 o15 o16) M = .next (Ev sc t o2 o3 o4 o5 o6 o7 o8 o9 (some (.loc wl)) o11 o12 o13 o14 o15 o16) M' := by
  have z := sizeLine_is
  obtain ⟨l1, l2⟩ := tp.lt
  have hit : iRange1 (aCons (xLit (.int 5)) (aNil)) (run ds 30) (Ev sc t o2 o3 o4 o5 o6 o7 o8 o9 o10 o11 o12 o13 o14 o15 o16) M = .ok ⟨rangeD 0 5, [], none⟩ M := irange1_ev (k := 5) (by omega) (by simp [Ev])
  obtain ⟨acc, M', g1, ⟨ws, e, g2, g3⟩, g5⟩ := xLc_inv (w := []) (fe := run ds 30) (e := xGc (xCall 11 (aCons (xVar 1) (aCons (xLit (.int 4)) (aNil))))) (own := [14]) (p := .nm 14) (fun acc X => ∃ (ws : List Int), acc = ws.map D.int ∧ (∀ x ∈ ws, 0 ≤ x ∧ x ≤ 3) ∧ Fr t c M X) hit ⟨[], rfl, by simp, Fr.refl tp cl⟩ (by rw [rangeD_len, z]; omega) (fun _ _ _ => by simp) fun x hx acc X ⟨ws, e, g2, g3⟩ => by
    obtain ⟨r, cs, sd, i1, i2, hd⟩ := f11 t c 4 X g3.tp (by omega) (by omega)
    have hg := gcO_new (r := .int r) tpM_len (tpM_cl g3.tp g3.cl cs sd) [] rfl
    rw [List.append_nil] at hg
    have fr := g3.tape cs sd
    refine ⟨_, .int r, tpM t c cs sd X, rfl, ?_, ws ++ [r], by simp [e], fun y hy => ?_, fr⟩
    · generalize tpM t c cs sd X = Y at *
      simp [Ev, wipeE, hd, hg]
    · rcases List.mem_append.mp hy with hy | hy
      · exact g2 y hy
      · simp at hy; subst hy; omega
  subst e
  rw [rangeD_len, List.length_map] at g5
  have f2 := g3.app1 (E := [O.lst (ws.map D.int)]) (by
    intro o ho
    simp only [List.mem_cons, List.not_mem_nil, or_false] at ho
    subst ho
    exact int_closed _)
  have hl := g3.len
  refine ⟨ws, M'.length, _, ⟨by omega, by omega, by simp, g5, g2⟩, f2, ?_⟩
  have ec : c22_7 = sSet 10 (xLc (iRange1 (aCons (xLit (.int 5)) (aNil))) (.nm 14) (tYesD) (xGc (xCall 11 (aCons (xVar 1) (aCons (xLit (.int 4)) (aNil))))) [14]) := rfl
  rw [ec, sSet_ev, g1]
  rfl
theorem Wo.f {ws : List Int} {wl : Nat} (h : Wo t c ws wl M) (r : Int) : 0 ≤ ws.getD r.toNat 0 ∧ ws.getD r.toNat 0 ≤ 3 := by
  rw [List.getD_eq_getElem?_getD]
  cases e : ws[r.toNat]? with
  | none => simp
  | some x => exact h.bd x (List.mem_of_getElem? e)
theorem h8 {ws : List Int} {wl : Nat} (h : TM t c many W Sl P ls w s d M) (ho : Wo t c ws wl M) : c22_8 (run ds 30) (Ev sc t o2 o3 (some (.int many)) (some (.loc w)) (some (.loc s)) (some (.loc d)) (some (shown W Sl)) o9 (some (.loc wl)) o11 o12 o13 o14 o15 o16) M = .next (Ev sc t o2 o3 (some (.int many)) (some (.loc w)) (some (.loc s)) (some (.loc d)) (some (shown W Sl)) o9 (some (.loc wl)) o11 o12 o13 o14 o15 o16) M := by
  have z := sizeLine_is
  have td := h.td
  have hb : ∀ x ∈ ws, 0 ≤ x ∧ x < 2 ^ 64 := fun x hx => by have := ho.bd x hx; omega
  have hd := f19 (M := M) ws td.pg ho.at_ hb h.hd (fun u hu r hr => by have := (td.pq u hu).2 r hr; have := ho.len; omega)
  have hlc := xLc_map (fe := run ds 30) (ρ := Ev sc t o2 o3 (some (.int many)) (some (.loc w)) (some (.loc s)) (some (.loc d)) (some (shown W Sl)) o9 (some (.loc wl)) o11 o12 o13 o14 o15 o16) (m := M) (m1 := M) (it := iAny (xVar 6)) (p := .nm 15) (own := [15]) (e := xGc (xCall 19 (aCons (xVar 15) (aCons (xVar 10) (aNil))))) (fun x => .int (numT (fun r => ws.getD r.toNat 0) (tmAt M x))) (xs := ls.map D.loc) (w := [(s, .lst (ls.map D.loc))]) (by simp [Ev, h.hs]) (by simp [watchOk, h.hs]) (by rw [List.length_map, h.ss.1, td.len, z]; have := td.m4; omega) (fun x hx => by
    obtain ⟨l, rfl, g1, g2⟩ := h.ss.mem hx
    have dd := td.ss _ g1
    refine ⟨_, rfl, ?_⟩
    have := f19 (M := M) (a := l) ws dd.gd ho.at_ hb g2 (fun u hu r hr => by have := (dd.row u hu).2 r hr; have := ho.len; omega)
    generalize numT (fun r => ws.getD r.toNat 0) (tmAt M (.loc l)) = X at *
    simp [Ev, wipeE, this, gcO_me])
  have em : (ls.map D.loc).map (fun x => D.int (numT (fun r => ws.getD r.toNat 0) (tmAt M x))) = (Sl.map (numT fun r => ws.getD r.toNat 0)).map D.int := by
    have := congrArg (List.map (fun A => D.int (numT (fun r => ws.getD r.toNat 0) A))) h.ss.map
    rw [List.map_map] at this
    refine Eq.trans this ?_
    rw [List.map_map]
    rfl
  rw [em] at hlc
  have hn := td.num fun r => ws.getD r.toNat 0
  have hb2 : ∀ x ∈ Sl.map (numT fun r => ws.getD r.toNat 0), 0 ≤ x ∧ x < 2 ^ 64 := fun x hx => by
    obtain ⟨A, hA, rfl⟩ := List.mem_map.mp hx
    have dd := td.ss A hA
    obtain ⟨a1, a2⟩ := numT_bd (f := fun r => ws.getD r.toNat 0) (b := 3) (k := 3) (c := 15) (A := A) (by omega) fun u hu => ⟨by have := (dd.cf u hu).1; omega, by have := (dd.cf u hu).2; omega, (dd.row u hu).1, fun r _ => ho.f r⟩
    have a3 : A.length * (15 * 3 ^ 3) ≤ 5 * (15 * 3 ^ 3) := Nat.mul_le_mul_right _ dd.len
    refine ⟨a1, ?_⟩
    generalize numT (fun r => ws.getD r.toNat 0) A = X at *
    omega
  have hw := f19 (M := M ++ [.lst ((Sl.map (numT fun r => ws.getD r.toNat 0)).map D.int)]) (a := w) (wl := M.length) (Sl.map (numT fun r => ws.getD r.toNat 0)) td.w.gd (by simp) hb2 (app_get h.hw) (fun u hu r hr => by rw [List.length_map, td.len]; exact (td.w.row u hu).2 r hr)
  rw [← hn] at hw
  generalize (Sl.map (numT fun r => ws.getD r.toNat 0)).map D.int = L at *
  generalize numT (fun r => ws.getD r.toNat 0) P = N at *
  generalize shown W Sl = Z at *
  have hne : opNeS (.loc d) (.str "far") M = some (.bl true, M) := by simp [opNeS, h.hd]
  have hN : ∀ m, opNe (.int N) (.int N) m = some (.bl false, m) := fun m => opNe_self (by simp [pureD])
  have hg := fun (b : Bool) x => gcB_app (b := b) h.cl x
  simp only [Ev] at hlc ⊢
  simp only [c22_8, sIf_ev, tGc_ev, tAn_ev, tB_ev, xBin_ev, xVar_ev, xLit_ev, List.getElem?_cons_succ, List.getElem?_cons_zero, Out.bind_ok, hne, Out.ofO_some, blK_bl, if_true, xCall_ev, aCons_ev, aNil_ev, hd, hlc, hw, hN, hg]
  simp
def e9 : Den := xGc (xTup (aCons (xTup (aCons (xTup (aCons (xVar 14) (aCons (xLit (.int 1)) (aNil)))) (aNil))) (aCons (xLit (.int 1)) (aNil))))
theorem own_ev {ρ : Env} {cl : ClM M} (dA : DenA) (k : Nat) (hk : k ≤ 1000) (hd : dA (run ds 30) ρ M = .ok [.int k] M) (h14 : ∀ x, ((wipeE ρ [14]).set 14 (some x))[14]? = some (some x)) : xGc (xCallF bTuple (aCons (xLc (iRange1 dA) (.nm 14) (tYesD) e9 [14]) (aNil))) (run ds 30) ρ M = .ok (.tup ((plT k).map fP)) M := by
  have z := sizeLine_is
  have hit : iRange1 dA (run ds 30) ρ M = .ok ⟨rangeD 0 k, [], none⟩ M := irange1_ev hk hd
  have hlc := xLc_map (fe := run ds 30) (ρ := ρ) (m := M) (m1 := M) (it := iRange1 dA) (p := .nm 14) (own := [14]) (e := e9) (fun d => .tup [.tup [.tup [d, .int 1]], .int 1]) (xs := rangeD 0 k) (w := []) hit rfl (by rw [rangeD_len]; omega) fun x hx => by
    refine ⟨_, rfl, ?_⟩
    simp [e9, h14, z, gcO_me]
  have em : (rangeD 0 k).map (fun d => D.tup [.tup [.tup [d, .int 1]], .int 1]) = (plT k).map fP := by
    simp only [rangeD, plT, List.map_map]
    refine List.map_congr_left fun i _ => ?_
    simp [fP_one]
  rw [em] at hlc
  have hc : closed M.length (.tup ((plT k).map fP)) = true := by
    simp only [closed, closeds_all, plT, List.all_map, List.all_eq_true]
    intro i _
    simp [fP_one, closed, closeds]
  have hg := fun x => gcO_app cl hc x
  generalize (plT k).map fP = L at *
  simp only [xGc_ev, xCallF_ev, aCons_ev, aNil_ev, hlc, Out.bind_ok, bTuple_end, Out.ofO_some, hg]
theorem h9 (h : TM t c many W Sl P ls w s d M) {o5 o6 o7 o8 : Option D} : c22_9 (run ds 30) (Ev sc t o2 o3 (some (.int many)) o5 o6 o7 o8 o9 o10 o11 o12 o13 o14 o15 o16) M = .next (Ev sc t o2 o3 (some (.int many)) o5 o6 o7 o8 o9 o10 (some (.tup ((plT many).map fP))) o12 o13 o14 o15 o16) M := by
  have g := own_ev (ρ := Ev sc t o2 o3 (some (.int many)) o5 o6 o7 o8 o9 o10 o11 o12 o13 o14 o15 o16) (M := M) (cl := h.cl) (aCons (xVar 4) (aNil)) many (by have := h.td.m4; omega) (by simp [Ev]) (fun x => by simp [Ev, wipeE])
  have ec : c22_9 = sSet 11 (xGc (xCallF bTuple (aCons (xLc (iRange1 (aCons (xVar 4) (aNil))) (.nm 14) (tYesD) e9 [14]) (aNil)))) := rfl
  rw [ec, sSet_ev, g]
  rfl
/-- each row by itself -/
def sgs (k : Nat) : List D := (List.range k).map fun (i : Nat) => shD (sgT (i : Int))
theorem DS.own {A : Tm} {k : Nat} (h : DS A k 4) (hk : k ≤ 4) (m : Mem) : run ds 30 16 [shD A, .tup (sgs k)] m = .ok (shD A) m := by
  have hl : (sgs k).length = k := by simp [sgs]
  have sg1 : ∀ r, (sgT r).length ≤ 1 := fun r => by simp [sgT]
  have ws : WS A (sgs k) sgT := ⟨h.gd, by have := h.len; omega, fun x hx => by have := (h.row x hx).1; omega, fun x hx => by have := (h.cf x hx).2; omega, fun x hx r hr => by
    obtain ⟨a1, a2⟩ := (h.row x hx).2 r hr
    obtain ⟨j, rfl⟩ := Int.eq_ofNat_of_zero_le a1
    have hj : j < k := by omega
    refine ⟨by rw [atI_nat]; simp [sgs, hj], ⟨sg_good _, fun u hu y hy => ?_, by simp [sgT], by simp [sgT]⟩, by simp [sgT]⟩
    simp only [sgT, List.mem_cons, List.not_mem_nil, or_false] at hu
    subst hu
    simp at hy; subst hy; omega⟩
  refine s16ok 29 _ ?_
  refine ((s9r (W := A) (ss := sgs k) (m := m) 23 (fun _ => true) (.ok (shD A) m) h.gd ws.len ws.sz (by omega) (h.s3 (by omega) (by omega) 26 m) fun x hx => ?_).2 (fun x hx r hr => ?_)).1 _ ?_
  · obtain ⟨j, hj, rfl⟩ := List.mem_map.mp hx
    have hj' : j < k := by simpa using hj
    exact s3sh 26 _ m (sg_good _) (fun u hu y hy => by
      simp only [sgT, List.mem_cons, List.not_mem_nil, or_false] at hu
      subst hu
      simp at hy; subst hy; omega) (by simp [sgT])
  · rw [hl]; exact ((h.row x hx).2 r hr).2
  · have e := sh_perm (A := A) (B := putAll sgT A) h.gd (put_sg h.gd).symm
    have hln := (put_sg h.gd).length_eq
    refine Eq.trans ?_ (congrArg (fun v => Out.ok v m) e.symm)
    exact s8 23 A _ _ m ws (fun x hx => toldO_some (b := 1) (by omega) (fun r _ => sg1 r) (by simp [oneT])) (by rw [hln]; exact ws.len)
theorem own_one (m : Mem) : run ds 30 16 [shD oneT, .tup []] m = .ok (shD oneT) m := by
  have ws : WS oneT [] (fun _ => []) := ⟨one_good, by simp [oneT], by simp [oneT], by simp [oneT], by simp [oneT]⟩
  refine s16ok 29 _ ?_
  refine ((s9r (W := oneT) (ss := []) (m := m) 23 (fun _ => true) (.ok (shD oneT) m) one_good ws.len ws.sz (by simp) (s3sh 26 _ m one_good (by simp [oneT, Rw]) ws.len) (by simp)).2 (by simp [oneT])).1 _ ?_
  exact s8 23 oneT [] (fun _ => []) m ws (fun x hx => toldO_some (b := 1) (by omega) (by simp) (by simp [oneT])) (by decide)
theorem h10 (h : TM t c many W Sl P ls w s d M) {o5 o6 o7 : Option D} : c22_10 (run ds 30) (Ev sc t o2 o3 (some (.int many)) o5 o6 o7 (some (shown W Sl)) o9 o10 (some (.tup ((plT many).map fP))) o12 o13 o14 o15 o16) M = .next (Ev sc t o2 o3 (some (.int many)) o5 o6 o7 (some (shown W Sl)) o9 o10 (some (.tup ((plT many).map fP))) o12 o13 o14 o15 o16) M := by
  have z := sizeLine_is
  have td := h.td
  have hk := td.m4
  have hlc := xLc_map (fe := run ds 30) (ρ := Ev sc t o2 o3 (some (.int many)) o5 o6 o7 (some (shown W Sl)) o9 o10 (some (.tup ((plT many).map fP))) o12 o13 o14 o15 o16) (m := M) (m1 := M) (it := iAny (xVar 11)) (p := .nm 16) (own := [16]) (e := xGc (xTup (aCons (xVar 16) (aNil)))) (fun d => .tup [d]) (xs := (plT many).map fP) (w := []) (by simp [Ev]) rfl (by simp [plT, z]; omega) fun x hx => by
    refine ⟨_, rfl, ?_⟩
    simp [Ev, wipeE, z, gcO_me]
  have em : ((plT many).map fP).map (fun d => D.tup [d]) = sgs many := by
    simp only [plT, sgs, List.map_map]
    refine List.map_congr_left fun i _ => ?_
    simp [fP_one, sg_sh]
  rw [em] at hlc
  have h16 := td.w.own hk (M ++ [.lst (sgs many)])
  have h13 := f13 (shD W) (M ++ [.lst (sgs many)]) (sh_sm td.w.gd (by have := td.w.len; omega) fun x hx => by have := (td.w.row x hx).1; omega)
  have h1 := own_one (M ++ [.lst (sgs many)])
  rw [one_sh] at h1
  have hne := fun m => opNe_self (m := m) (d := .tup [(.tup [(.tup []), (.int 1)])]) (by decide)
  have hg := fun (b : Bool) x => gcB_app (b := b) h.cl x
  unfold shown at hlc ⊢
  generalize shD W = X at *
  generalize sgs many = Y at *
  generalize (plT many).map fP = V at *
  have l1 : ([] : List D).length ≤ sizeLine := by rw [z]; simp
  simp only [Ev] at hlc ⊢
  simp [c22_10, hlc, opIx, h16, h13, h1, hne, hg, truth, z]
end
end K39
end Mn
set_option Elab.async false
set_option linter.all false
set_option maxRecDepth 100000
set_option maxHeartbeats 1000000
namespace Mn
namespace K39
open PySem
theorem gcB_new {M M' : Mem} {b : Bool} (hl : M'.length = M.length) (h : ClM M') (x : Mem) : gcB M (.ok b (M' ++ x)) = .ok b M' := by
  have e : (M' ++ x).take M.length = M' := by
    rw [← hl]; exact take_app M' x
  have hc : cutOk M (M' ++ x) = true := by
    simp only [cutOk, Bool.or_eq_true, Bool.and_eq_true, decide_eq_true_eq, e, List.all_eq_true]
    refine .inr ⟨by simp; omega, fun o ho => ?_⟩
    have := h o ho
    rwa [hl] at this
  simp only [gcB, hc, e, if_true]
/-- values that are no sums -/
def oddL (l : Nat) : List D := [.non, .loc l, .tup [.tup []], .tup [.tup [.tup [.tup [.int 0, .int 0]], .int 1]], .tup [.tup [.tup [.tup [.int 1, .int 1], .tup [.int 0, .int 1]], .int 1]], .tup [.tup [.tup [], .int 0]], .tup [.tup [.tup [], .bl true]], .tup [.tup [.tup [.tup [.int 40, .int 1]], .int 1]]]
theorem cut_len {α : Type} (xs : List α) {k : Int} (hk : 0 ≤ k) : ((cutD xs none (some k)).length : Int) ≤ k := by
  obtain ⟨j, rfl⟩ := Int.eq_ofNat_of_zero_le hk
  simp only [cutD, HT.sIx_none, HT.sIx_nat, List.length_take]
  omega
theorem cut_mem {α : Type} {xs : List α} {lo hi : Option Int} {x : α} (h : x ∈ cutD xs lo hi) : x ∈ xs := List.mem_of_mem_drop (List.mem_of_mem_take h)
theorem maxI_mem {x : Int} {xs : List Int} : maxI (x :: xs) ∈ x :: xs := by
  rcases (foldl_max_le xs x).2.2 with h | h
  · simp [maxI, h]
  · exact List.mem_cons_of_mem _ h
theorem two_non (n : Nat) (m : Mem) : run ds (n + 1) 2 [.non] m = .ok (.bl false) m := by simp [r2, d2, tyN, isT, truth]
theorem two_lst (n l : Nat) (m : Mem) (xs : List D) (h : m[l]? = some (.lst xs)) : run ds (n + 1) 2 [.loc l] m = .ok (.bl false) m := by simp [r2, d2, tyN, isT, truth, h]
theorem two_e (n : Nat) (m : Mem) : run ds (n + 1) 2 [.tup [.tup []]] m = .ok (.bl false) m := by
  simp [r2, d2, tyN, isT, truth, sFor, forGo, bindP, bLen, opNe, eqM, pureD, eqv, unlockS, unlockM, lockM]
theorem two_t (n : Nat) (m : Mem) : run ds (n + 1) 2 [.tup [.tup [.tup [], .bl true]]] m = .ok (.bl false) m := by
  simp [r2, d2, tyN, isT, truth, sFor, forGo, bindP, bLen, opNe, eqM, pureD, eqv, opIx, unlockS, unlockM, lockM]
theorem three_of (n : Nat) (v : D) (m : Mem) (h : run ds (n + 1) 2 [v] m = .ok (.bl false) m) : run ds (n + 2) 3 [v, .int 40] m = .ok (.bl false) m := by
  simp [r3, d3, s0, h, truth]
theorem odd_bad {l : Nat} {m : Mem} (h : m[l]? = some (.lst [])) (n : Nat) : ∀ x ∈ oddL l, run ds (n + 2) 3 [x, .int 40] m = .ok (.bl false) m := fun x hx => by
  simp only [oddL, List.mem_cons, List.not_mem_nil, or_false] at hx
  rcases hx with rfl | rfl | rfl | rfl | rfl | rfl | rfl | rfl
  · exact three_of n _ m (two_non n m)
  · exact three_of n _ m (two_lst n l m _ h)
  · exact three_of n _ m (two_e n m)
  · exact s3 n 40 _ m (by omega) (by decide) (by decide)
  · exact s3 n 40 _ m (by omega) (by decide) (by decide)
  · exact s3 n 40 _ m (by omega) (by decide) (by decide)
  · exact three_of n _ m (two_t n m)
  · exact s3 n 40 _ m (by omega) (by decide) (by decide)
section
variable {sc : D} {t c many : Nat} {W P : Tm} {Sl : List Tm} {ls : List Nat} {w s d : Nat} {o2 o3 o9 o10 o11 o12 o13 o14 o15 o16 : Option D} {M : Mem}
theorem h11 {o4 o6 o7 o8 : Option D} (h : TM t c many W Sl P ls w s d M) : ∃ (l : Nat) (M' : Mem), Fr t c M M' ∧ l ≠ t ∧ l ≠ c ∧ M'[l]? = some (.lst ((W.flatMap (·.1)).map D.int)) ∧ c22_11 (run ds 30) (Ev sc t o2 o3 o4 (some (.loc w)) o6 o7 o8 o9 o10 o11 o12 o13 o14 o15 o16) M = .next (Ev sc t o2 o3 o4 (some (.loc w)) o6 o7 o8 o9 o10 o11 (some (.loc l)) o13 o14 o15 o16) M' := by
  obtain ⟨l1, l2⟩ := h.tp.lt
  obtain ⟨E, l, g1, g2, g3, g4⟩ := (s21 29 w W M h.hw (by have := h.td.w.len; omega) (fun x hx => by have := (h.td.w.row x hx).1; omega) : ∃ E l, run ds 30 21 [.loc w] M = .ok (.loc l) (M ++ E) ∧ (M ++ E)[l]? = some (.lst ((W.flatMap (·.1)).map D.int)) ∧ M.length ≤ l ∧ ∀ o ∈ E, closedO 0 o = true)
  have f := (Fr.refl h.tp h.cl).app g4
  have hg : ∀ x, gcO M (.ok (.loc l) x) = .ok (.loc l) x := fun x => by
    have : ¬ l < M.length := by omega
    simp [gcO, closed, this]
  refine ⟨l, _, f, by omega, by omega, g2, ?_⟩
  generalize M ++ E = Y at *
  simp [c22_11, Ev, g1, hg]
theorem h12 {o4 o5 o6 o7 o8 : Option D} (tp : Tp t c M) (cl : ClM M) : ∃ (l ol : Nat) (M' : Mem), Fr t c M M' ∧ l ≠ t ∧ l ≠ c ∧ ol ≠ t ∧ ol ≠ c ∧ M'[l]? = some (.lst []) ∧ M'[ol]? = some (.lst (oddL l)) ∧ c22_12 (run ds 30) (Ev sc t o2 o3 o4 o5 o6 o7 o8 o9 o10 o11 o12 o13 o14 o15 o16) M = .next (Ev sc t o2 o3 o4 o5 o6 o7 o8 o9 o10 o11 o12 (some (.loc ol)) o14 o15 o16) M' := by
  have z := sizeLine_is
  obtain ⟨l1, l2⟩ := tp.lt
  have f0 := (Fr.refl tp cl).app (E := [O.lst []]) (by simp [closedO, closeds])
  have f := f0.app1 (E := [O.lst (oddL M.length)]) (by simp [oddL, closedO, closeds, closed])
  have hg : ∀ x, gcO M (.ok (.loc (M.length + 1)) x) = .ok (.loc (M.length + 1)) x := fun x => by
    have : ¬ M.length + 1 < M.length := by omega
    simp [gcO, closed, this]
  refine ⟨M.length, M.length + 1, _, f, by omega, by omega, by omega, by omega, by simp, ?_, ?_⟩
  · have := get_end (M ++ [O.lst []]) (O.lst (oddL M.length))
    simpa using this
  · simp [c22_12, Ev, hg, z, oddL]
theorem opAdd_tup (a b : List D) (m : Mem) (h : a.length + b.length ≤ sizeLine) : opAdd (.tup a) (.tup b) m = some (.tup (a ++ b), m) := by simp [opAdd, h]
theorem h13 {o4 o5 o6 o7 : Option D} {l ol : Nat} (h : TM t c many W Sl P ls w s d M) (n1 : l ≠ t) (n2 : l ≠ c) (n3 : ol ≠ t) (n4 : ol ≠ c) (hl : M[l]? = some (.lst [])) (hol : M[ol]? = some (.lst (oddL l))) : ∃ M', Fr t c M M' ∧ c22_13 (run ds 30) (Ev sc t o2 o3 o4 o5 o6 o7 (some (shown W Sl)) o9 o10 o11 o12 (some (.loc ol)) o14 o15 o16) M = .next (Ev sc t o2 o3 o4 o5 o6 o7 (some (shown W Sl)) o9 o10 o11 o12 (some (.loc ol)) o14 o15 o16) M' := by
  have z := sizeLine_is
  have td := h.td
  have m4 := td.m4
  obtain ⟨x, cs, sd, hx, hd⟩ := f12 t c ol (oddL l) M h.tp hol n3 n4 (by simp [oddL]) (by simp [oddL])
  have f := (Fr.refl h.tp h.cl).tape cs sd
  have hl' : (tpM t c cs sd M)[l]? = some (.lst []) := by rw [tpM_get n1 n2]; exact hl
  have hlen : (tpM t c cs sd M).length = M.length := tpM_len
  refine ⟨_, f, ?_⟩
  generalize tpM t c cs sd M = Y at *
  have g3W := fun m => td.w.s3 (by omega) (by omega) 26 m
  have hsl := td.len
  have hlS : (Sl.map shD).length ≤ 4 := by rw [List.length_map]; omega
  have k1 : run ds 30 16 [x, .tup (Sl.map shD)] Y = .ok (.str "sum") Y := s16sum 29 (s9a 23 (odd_bad hl' 26 x hx))
  have k2 : run ds 30 16 [shD W, .loc Y.length] (Y ++ [.lst (Sl.map shD)]) = .ok (.str "sum") (Y ++ [.lst (Sl.map shD)]) := s16sum 29 (s9l 23 Y.length (Sl.map shD) (g3W _) (by simp))
  have k3 : ∀ m, run ds 30 16 [shD W, .tup (Sl.map shD ++ [.non])] m = .ok (.str "sum") m := fun m => s16sum 29 (s9b 23 (fun v => match v with | .non => false | _ => true) (by simp; omega) (g3W _) (fun v hv => by
    rcases List.mem_append.mp hv with hv | hv
    · obtain ⟨A, hA, rfl⟩ := List.mem_map.mp hv
      exact (td.ss A hA).s3 (by omega) (by omega) 26 m
    · simp only [List.mem_cons, List.not_mem_nil, or_false] at hv
      subst hv
      exact three_of 26 _ m (two_non 26 m)) (by simp))
  have hne := fun m => opNe_self (m := m) (d := .str "sum") (by decide +kernel)
  have hadd := fun m => opAdd_tup (Sl.map shD) [.non] m (by simp at hlS ⊢; rw [z]; omega)
  have hg := fun (b : Bool) x => gcB_new (b := b) hlen f.cl x
  have hbl : bList [.tup (Sl.map shD)] Y = some (.loc Y.length, Y ++ [.lst (Sl.map shD)]) := by simp [bList, itemsM]
  unfold shown
  generalize Sl.map shD = S at *
  generalize shD W = X at *
  generalize oddL l = O at *
  simp [c22_13, Ev, hd, opIx, k1, k2, k3, hne, hadd, hbl, z, hg]
theorem h14 {o4 o5 o6 o7 : Option D} {l : Nat} (h : TM t c many W Sl P ls w s d M) (hl : M[l]? = some (.lst ((W.flatMap (·.1)).map D.int))) : c22_14 (run ds 30) (Ev sc t o2 o3 o4 o5 o6 o7 (some (shown W Sl)) o9 o10 o11 (some (.loc l)) o13 o14 o15 o16) M = .next (Ev sc t o2 o3 o4 o5 o6 o7 (some (shown W Sl)) o9 o10 o11 (some (.loc l)) o13 o14 o15 o16) M := by
  have z := sizeLine_is
  have td := h.td
  have m4 := td.m4
  have hg := fun (b : Bool) x => gcB_app (b := b) h.cl x
  have hg0 := fun (b : Bool) => gcB_app (b := b) h.cl []
  simp only [List.append_nil] at hg0
  have hlb : bLen [.loc l] M = some (.int ((W.flatMap (·.1)).length : Int), M) := by simp [bLen, hl]
  cases e : W.flatMap (·.1) with
  | nil =>
    rw [e] at hlb
    unfold shown
    generalize Sl.map shD = S at *
    generalize shD W = X at *
    have hgt : opGt (.int 0) (.int 0) M = some (.bl false, M) := by simp [opGt]
    simp [c22_14, Ev, hlb, hgt, hg0]
  | cons r rs =>
    have hm : maxI (r :: rs) ∈ W.flatMap (·.1) := by rw [e]; exact maxI_mem
    obtain ⟨u, hu, hr⟩ := List.mem_flatMap.mp hm
    have hb := (td.w.row u hu).2 _ hr
    have hmx : bMax [.loc l] M = some (.int (maxI (r :: rs)), M) := by
      rw [e] at hl
      simp only [bMax, listM, hl, Option.bind_some, intsD_map]
    have hcl := cut_len (Sl.map shD) hb.1
    have k1 : run ds 30 16 [shD W, .tup (cutD (Sl.map shD) none (some (maxI (r :: rs))))] M = .ok (.str "sum") M := by
      refine s16sum 29 ((s9r (W := W) (ss := cutD (Sl.map shD) none (some (maxI (r :: rs)))) (m := M) 23 (fun _ => true) (.ok .non M) td.w.gd (by have := td.w.len; omega) (fun x hx => by have := (td.w.row x hx).1; omega) (by omega) (td.w.s3 (by omega) (by omega) 26 M) fun x hx => ?_).1 ⟨u, hu, _, hr, by omega⟩)
      obtain ⟨A, hA, rfl⟩ := List.mem_map.mp (cut_mem hx)
      exact (td.ss A hA).s3 (by omega) (by omega) 26 M
    have hsl : opSl (.tup (Sl.map shD)) none (some (maxI (r :: rs))) M = some (.tup (cutD (Sl.map shD) none (some (maxI (r :: rs)))), M) := rfl
    have hne := fun m => opNe_self (m := m) (d := .str "sum") (by decide +kernel)
    have hgt : opGt (.int ((W.flatMap (·.1)).length : Int)) (.int 0) M = some (.bl true, M) := by
      have : (0 : Int) < ((W.flatMap (·.1)).length : Int) := by rw [e]; simp
      simp only [opGt, this, decide_true]
    unfold shown
    generalize cutD (Sl.map shD) none (some (maxI (r :: rs))) = C at *
    generalize maxI (r :: rs) = mx at *
    generalize ((W.flatMap (·.1)).length : Int) = N at *
    generalize Sl.map shD = S at *
    generalize shD W = X at *
    simp [c22_14, Ev, hlb, hgt, hg0, hmx, hsl, k1, hne, opIx]
end
end K39
end Mn
set_option Elab.async false
set_option linter.all false
set_option maxRecDepth 100000
set_option maxHeartbeats 1000000
namespace Mn
namespace K39
open PySem
theorem turn {sc : D} {t c : Nat} {M : Mem} (o2 o3 o4 o5 o6 o7 o8 o9 o10 o11 o12 o13 o14 o15 o16 : Option D) (tp : Tp t c M) (cl : ClM M) : ∃ (o4' o5' o6' o7' o8' o9' o10' o11' o12' o13' : Option D) (M' : Mem), Fr t c M M' ∧ c22 (run ds 30) (Ev sc t o2 o3 o4 o5 o6 o7 o8 o9 o10 o11 o12 o13 o14 o15 o16) M = .next (Ev sc t o2 o3 o4' o5' o6' o7' o8' o9' o10' o11' o12' o13' o14 o15 o16) M' := by
  obtain ⟨many, M1, m1, m4, f1, g0⟩ := h0 (sc := sc) (o2 := o2) (o3 := o3) (o4 := o4) (o5 := o5) (o6 := o6) (o7 := o7) (o8 := o8) (o9 := o9) (o10 := o10) (o11 := o11) (o12 := o12) (o13 := o13) (o14 := o14) (o15 := o15) (o16 := o16) tp cl
  obtain ⟨W, w, M2, hW, f2, w1, w2, hw, g1⟩ := h1 (sc := sc) (o2 := o2) (o3 := o3) (o5 := o5) (o6 := o6) (o7 := o7) (o8 := o8) (o9 := o9) (o10 := o10) (o11 := o11) (o12 := o12) (o13 := o13) (o14 := o14) (o15 := o15) (o16 := o16) f1.tp f1.cl m1 m4
  obtain ⟨ls, Sl, s, M3, hl, hS, ss, f3, s1, s2, hs, g2⟩ := h2 (sc := sc) (o2 := o2) (o3 := o3) (o6 := o6) (o7 := o7) (o8 := o8) (o9 := o9) (o10 := o10) (o11 := o11) (o12 := o12) (o13 := o13) (o14 := o14) (o15 := o15) (o16 := o16) (w := w) f2.tp f2.cl m1 m4
  obtain ⟨P, d, M4, tm, f4, g3⟩ := h3 (sc := sc) (o2 := o2) (o3 := o3) (o7 := o7) (o8 := o8) (o9 := o9) (o10 := o10) (o11 := o11) (o12 := o12) (o13 := o13) (o14 := o14) (o15 := o15) (o16 := o16) f3.tp f3.cl m1 m4 hW hl hS w1 w2 (f3.get w1 w2 hw) s1 s2 hs ss
  have g4 := h4 (sc := sc) (o2 := o2) (o3 := o3) (o8 := o8) (o9 := o9) (o10 := o10) (o11 := o11) (o12 := o12) (o13 := o13) (o14 := o14) (o15 := o15) (o16 := o16) tm
  have g5 := h5 (sc := sc) (o2 := o2) (o3 := o3) (o9 := o9) (o10 := o10) (o11 := o11) (o12 := o12) (o13 := o13) (o14 := o14) (o15 := o15) (o16 := o16) tm
  have g6 := h6 (sc := sc) (o2 := o2) (o3 := o3) (o10 := o10) (o11 := o11) (o12 := o12) (o13 := o13) (o14 := o14) (o15 := o15) (o16 := o16) tm
  obtain ⟨ws, wl, M5, wo, f5, g7⟩ := h7 (sc := sc) (o2 := o2) (o3 := o3) (o4 := some (.int many)) (o5 := some (.loc w)) (o6 := some (.loc s)) (o7 := some (.loc d)) (o8 := some (shown W Sl)) (o9 := some (shD P)) (o10 := o10) (o11 := o11) (o12 := o12) (o13 := o13) (o14 := o14) (o15 := o15) (o16 := o16) tm.tp tm.cl
  have tm5 := tm.fr f5
  have g8 := h8 (sc := sc) (o2 := o2) (o3 := o3) (o9 := some (shD P)) (o11 := o11) (o12 := o12) (o13 := o13) (o14 := o14) (o15 := o15) (o16 := o16) tm5 wo
  have g9 := h9 (sc := sc) (o2 := o2) (o3 := o3) (o5 := some (.loc w)) (o6 := some (.loc s)) (o7 := some (.loc d)) (o8 := some (shown W Sl)) (o9 := some (shD P)) (o10 := some (.loc wl)) (o11 := o11) (o12 := o12) (o13 := o13) (o14 := o14) (o15 := o15) (o16 := o16) tm5
  have g10 := h10 (sc := sc) (o2 := o2) (o3 := o3) (o5 := some (.loc w)) (o6 := some (.loc s)) (o7 := some (.loc d)) (o9 := some (shD P)) (o10 := some (.loc wl)) (o12 := o12) (o13 := o13) (o14 := o14) (o15 := o15) (o16 := o16) tm5
  obtain ⟨l, M6, f6, n1, n2, hm, g11⟩ := h11 (sc := sc) (o2 := o2) (o3 := o3) (o4 := some (.int many)) (o6 := some (.loc s)) (o7 := some (.loc d)) (o8 := some (shown W Sl)) (o9 := some (shD P)) (o10 := some (.loc wl)) (o11 := some (.tup ((plT many).map fP))) (o12 := o12) (o13 := o13) (o14 := o14) (o15 := o15) (o16 := o16) tm5
  have tm6 := tm5.fr f6
  obtain ⟨l', ol, M7, f7, p1, p2, p3, p4, p5, p6, g12⟩ := h12 (sc := sc) (o2 := o2) (o3 := o3) (o4 := some (.int many)) (o5 := some (.loc w)) (o6 := some (.loc s)) (o7 := some (.loc d)) (o8 := some (shown W Sl)) (o9 := some (shD P)) (o10 := some (.loc wl)) (o11 := some (.tup ((plT many).map fP))) (o12 := some (.loc l)) (o13 := o13) (o14 := o14) (o15 := o15) (o16 := o16) tm6.tp tm6.cl
  have tm7 := tm6.fr f7
  obtain ⟨M8, f8, g13⟩ := h13 (sc := sc) (o2 := o2) (o3 := o3) (o4 := some (.int many)) (o5 := some (.loc w)) (o6 := some (.loc s)) (o7 := some (.loc d)) (o9 := some (shD P)) (o10 := some (.loc wl)) (o11 := some (.tup ((plT many).map fP))) (o12 := some (.loc l)) (o14 := o14) (o15 := o15) (o16 := o16) tm7 p1 p2 p3 p4 p5 p6
  have tm8 := tm7.fr f8
  have g14 := h14 (sc := sc) (o2 := o2) (o3 := o3) (o4 := some (.int many)) (o5 := some (.loc w)) (o6 := some (.loc s)) (o7 := some (.loc d)) (o9 := some (shD P)) (o10 := some (.loc wl)) (o11 := some (.tup ((plT many).map fP))) (o13 := some (.loc ol)) (o14 := o14) (o15 := o15) (o16 := o16) tm8 (f8.get n1 n2 (f7.get n1 n2 hm))
  refine ⟨some (.int many), some (.loc w), some (.loc s), some (.loc d), some (shown W Sl), some (shD P), some (.loc wl), some (.tup ((plT many).map fP)), some (.loc l), some (.loc ol), M8, ((((((f1.trans f2).trans f3).trans f4).trans f5).trans f6).trans f7).trans f8, ?_⟩
  exact seq_step g0 (seq_step g1 (seq_step g2 (seq_step g3 (seq_step g4 (seq_step g5 (seq_step g6 (seq_step g7 (seq_step g8 (seq_step g9 (seq_step g10 (seq_step g11 (seq_step g12 (seq_step g13 g14)))))))))))))
/-- all turns -/
theorem turns {sc : D} {t c : Nat} {M : Mem} (tp : Tp t c M) (cl : ClM M) : ∃ (o2 o4 o5 o6 o7 o8 o9 o10 o11 o12 o13 : Option D) (M' : Mem), Fr t c M M' ∧ e22_2 (run ds 30) (Ev sc t none none none none none none none none none none none none none none none) M = .next (Ev sc t o2 none o4 o5 o6 o7 o8 o9 o10 o11 o12 o13 none none none) M' := by
  have hit : iRange1 (aCons (xLit (.int 4)) (aNil)) (run ds 30) (Ev sc t none none none none none none none none none none none none none none none) M = .ok ⟨rangeD 0 4, [], none⟩ M := irange1_ev (k := 4) (by omega) (by simp [Ev])
  obtain ⟨ρ', M', g1, ⟨o2, o4, o5, o6, o7, o8, o9, o10, o11, o12, o13, e, f⟩⟩ := sFor_inv (fe := run ds 30) (p := .nm 2) (b := c22) (w := []) (fun _ ρ X => ∃ (o2 o4 o5 o6 o7 o8 o9 o10 o11 o12 o13 : Option D), ρ = Ev sc t o2 none o4 o5 o6 o7 o8 o9 o10 o11 o12 o13 none none none ∧ Fr t c M X) hit (fun _ _ _ _ => rfl) ⟨_, _, _, _, _, _, _, _, _, _, _, rfl, Fr.refl tp cl⟩ (by
    rintro x r ρ X ⟨o2, o4, o5, o6, o7, o8, o9, o10, o11, o12, o13, rfl, f⟩
    obtain ⟨o4', o5', o6', o7', o8', o9', o10', o11', o12', o13', X', f', g⟩ := turn (sc := sc) (some x) none o4 o5 o6 o7 o8 o9 o10 o11 o12 o13 none none none f.tp f.cl
    exact ⟨_, _, X', rfl, .inl g, _, _, _, _, _, _, _, _, _, _, _, rfl, f.trans f'⟩)
  subst e
  refine ⟨o2, o4, o5, o6, o7, o8, o9, o10, o11, o12, o13, M', f, ?_⟩
  rw [ec22]
  exact g1
end K39
end Mn
set_option Elab.async false
set_option linter.all false
set_option maxRecDepth 100000
set_option maxHeartbeats 1000000
namespace Mn
namespace K39
open PySem PySem.W
theorem ltD_hd {a b : D} {xs ys : List D} (l : (toPy a).canLay0 = true) (h : comp (toPy a) (toPy b) = true) (e : PyData.eqv (toPy a) (toPy b) = false) : ltD (.tup (a :: xs)) (.tup (b :: ys)) = ltD a b := by
  unfold ltD
  simp only [toPy, toPys]
  rw [dataLt_tuple, lt_no l h e]
theorem fP_lt {i j : Int} (h : i < j) : ltD (fP ([i], 1)) (fP ([j], 1)) = true := by
  have hne : i ≠ j := by omega
  have hne2 : ¬ (i = j) := hne
  rw [fP_one, fP_one]
  rw [ltD_hd (by rfl) (by simp [toPy, toPys, comp, compAll, PyData.eqv, PyData.eqvAll, hne2]) (by simp [toPy, toPys, PyData.eqv, PyData.eqvAll, hne2])]
  rw [ltD_hd (by rfl) (by simp [toPy, toPys, comp, compAll, PyData.eqv, PyData.eqvAll, hne2]) (by simp [toPy, toPys, PyData.eqv, PyData.eqvAll, hne2])]
  rw [ltD_hd (by rfl) (by simp [toPy, toPys, comp, compAll, PyData.eqv, PyData.eqvAll, hne2]) (by simp [toPy, toPys, PyData.eqv, PyData.eqvAll, hne2])]
  rw [ltD_int]
  exact decide_eq_true h
theorem pl_good (k : Nat) : Gd (plT k) := ⟨pl_nd k, fun t ht => by
  obtain ⟨i, _, rfl⟩ := List.mem_map.mp ht
  simp, fun t ht => by
  obtain ⟨i, _, rfl⟩ := List.mem_map.mp ht
  simp⟩
theorem pl_len (k : Nat) : (plT k).length = k := by simp [plT]
theorem pl_sh (k : Nat) : shD (plT k) = .tup ((plT k).map fP) := by
  unfold shD
  congr 1
  refine asc_unique (kvK_sorted (Ok := fun p => p.Pairwise (· ≤ ·)) kfP (gd_ok (pl_good k)) (pl_nd k)).1 ?_ fun d => ?_
  · simp only [plT, List.pairwise_map]
    exact (List.pairwise_lt_range (n := k)).imp fun {a b} h => fP_lt (by omega)
  · rw [sort_mem, items_fP]
theorem pl_row {k : Nat} (hk : k ≤ 40) : ∀ t ∈ plT k, ∀ r ∈ t.1, 0 ≤ r ∧ r < 40 := fun t ht r hr => by
  obtain ⟨i, hi, rfl⟩ := List.mem_map.mp ht
  have := List.mem_range.mp hi
  simp at hr; subst hr; omega
theorem pl_sz {k : Nat} : ∀ t ∈ plT k, t.1.length ≤ 1 ∧ t.2 = 1 := fun t ht => by
  obtain ⟨i, hi, rfl⟩ := List.mem_map.mp ht
  simp
/-- one row 0 or more times -/
def reps (k : Nat) : Tm := [(List.replicate k 0, 1)]
theorem reps_good (k : Nat) : Gd (reps k) := ⟨by simp [keysT, reps], fun t ht => by
  simp only [reps, List.mem_cons, List.not_mem_nil, or_false] at ht
  subst ht
  exact List.pairwise_replicate.mpr (.inr (Int.le_refl 0)), by simp [reps]⟩
theorem wide_ws {k : Nat} (hk : k ≤ 3) : WS (reps k) [shD (plT 39)] (fun _ => plT 39) := ⟨reps_good k, by simp [reps], fun w hw => by
    simp only [reps, List.mem_cons, List.not_mem_nil, or_false] at hw
    subst hw; simp; omega, fun w hw => by
    simp only [reps, List.mem_cons, List.not_mem_nil, or_false] at hw
    subst hw; show (1 : Int) < 2 ^ 64; omega, fun w hw r hr => by
    simp only [reps, List.mem_cons, List.not_mem_nil, or_false] at hw
    subst hw
    have hr0 : r = 0 := (List.mem_replicate.mp hr).2
    subst hr0
    exact ⟨rfl, ⟨pl_good _, pl_row (by omega), by rw [pl_len]; omega, fun t ht => by have := (pl_sz t ht).1; omega⟩, fun t ht => by rw [(pl_sz t ht).2]; omega⟩⟩
theorem wide9 {k : Nat} (hk : k ≤ 3) (hk1 : 1 ≤ k) (m : Mem) (R : Out D) : (∀ v, run ds 28 8 [shD (reps k), .tup [shD (plT 39)]] m = .ok v m → run ds 29 9 [shD (reps k), .tup [shD (plT 39)]] m = .ok v m) ∧ (run ds 28 8 [shD (reps k), .tup [shD (plT 39)]] m = .exc 2 none m → run ds 29 9 [shD (reps k), .tup [shD (plT 39)]] m = .exc 2 none m) := by
  have ws := wide_ws hk
  refine (s9r (W := reps k) (ss := [shD (plT 39)]) (m := m) 23 (fun _ => true) R ws.gd ws.len ws.sz (by simp) (s3sh 26 _ m ws.gd (fun w hw r hr => ?_) ws.len) fun d hd => ?_).2 fun w hw r hr => ?_
  · simp only [reps, List.mem_cons, List.not_mem_nil, or_false] at hw
    subst hw
    rw [(List.mem_replicate.mp hr).2]; omega
  · simp only [List.mem_cons, List.not_mem_nil, or_false] at hd
    subst hd
    exact s3sh 26 _ m (pl_good _) (pl_row (by omega)) (by rw [pl_len]; omega)
  · simp only [reps, List.mem_cons, List.not_mem_nil, or_false] at hw
    subst hw
    rw [(List.mem_replicate.mp hr).2]; simp
theorem mul_one_perm {A : Tm} (h : Gd A) : (mulT oneT A).Perm A := by
  have e : pairsT oneT A = A := by
    simp only [pairsT, oneT, List.flatMap_cons, List.flatMap_nil, List.append_nil]
    refine (List.map_congr_left (g := id) fun a ha => ?_).trans (by simp)
    have : mg [] a.1 = a.1 := isort_self (h.srt a ha)
    rw [this]; simp
  show (acc (pairsT oneT A) []).Perm A
  rw [e]
  exact acc_self h.nd
theorem sq_put : (putAll (fun _ => plT 39) (reps 2)).Perm (mulT (plT 39) (plT 39)) := by
  have e : termsT (fun _ => plT 39) (reps 2) = mulT (mulT oneT (plT 39)) (plT 39) := by
    simp only [termsT, reps, List.flatMap_cons, List.flatMap_nil, List.append_nil]
    exact (List.map_congr_left (g := id) fun a ha => by simp).trans (by simp [toldT, List.replicate])
  show (acc (termsT _ _) []).Perm _
  rw [e]
  have hg : Gd (mulT (mulT oneT (plT 39)) (plT 39)) := mul_good (mul_good (by simp [oneT]) (pl_good _).pos).pos (pl_good _).pos
  exact (acc_self hg.nd).trans (mul_perm (mul_one_perm (pl_good _)) (.refl _))
theorem sq_good : Gd (mulT (plT 39) (plT 39)) := mul_good (pl_good _).pos (pl_good _).pos
theorem sq_len : (mulT (plT 39) (plT 39)).length ≤ 1521 := by have := mul_len (plT 39) (plT 39); rw [pl_len] at this; exact this
theorem wide_sq (m : Mem) : run ds 30 16 [shD (reps 2), .tup [shD (plT 39)]] m = .ok (shD (mulT (plT 39) (plT 39))) m := by
  refine s16ok 29 _ ((wide9 (by omega) (by omega) m (.ok .non m)).1 _ ?_)
  have e := sh_perm (A := mulT (plT 39) (plT 39)) sq_good sq_put.symm
  refine Eq.trans ?_ (congrArg (fun v => Out.ok v m) e.symm)
  refine s8 23 (reps 2) _ _ m (wide_ws (by omega)) (fun w hw => ?_) (by rw [sq_put.length_eq]; have := sq_len; omega)
  simp only [reps, List.mem_cons, List.not_mem_nil, or_false] at hw
  subst hw
  exact toldO_some (b := 39) (by omega) (fun r _ => by rw [pl_len]; omega) (by simp [oneT])
/-! ### the cube is too far -/
theorem mul_key {A B : Tm} {p q : List Int} (ha : p ∈ keysT A) (hb : q ∈ keysT B) : mg p q ∈ keysT (mulT A B) := by
  obtain ⟨a, h1, rfl⟩ := List.mem_map.mp ha
  obtain ⟨b, h2, rfl⟩ := List.mem_map.mp hb
  refine acc_mem.mpr (.inr (List.mem_map.mpr ⟨(mg a.1 b.1, a.2 * b.2), ?_, rfl⟩))
  exact List.mem_flatMap.mpr ⟨a, h1, List.mem_map.mpr ⟨b, h2, rfl⟩⟩
theorem pl_key {i : Nat} (h : i < 39) : [(i : Int)] ∈ keysT (plT 39) := List.mem_map.mpr ⟨([(i : Int)], 1), List.mem_map.mpr ⟨i, List.mem_range.mpr h, rfl⟩, rfl⟩
def tri : List (List Int) := (List.range 13).flatMap fun (i : Nat) => (List.range 13).flatMap fun (j : Nat) => (List.range 13).map fun (k : Nat) => [(i : Int), ((13 + j : Nat) : Int), ((26 + k : Nat) : Int)]
theorem tri_nd : tri.Nodup := by
  unfold tri
  refine List.pairwise_flatMap.mpr ⟨fun i _ => List.pairwise_flatMap.mpr ⟨fun j _ => List.pairwise_map.mpr ((List.nodup_range (n := 13)).imp fun {a b} h e => h ?_), (List.nodup_range (n := 13)).imp fun {a b} h => ?_⟩, (List.nodup_range (n := 13)).imp fun {a b} h => ?_⟩
  · intro x hx y hy e
    obtain ⟨k, _, rfl⟩ := List.mem_map.mp hx
    obtain ⟨k', _, rfl⟩ := List.mem_map.mp hy
    simp at e; omega
  · intro x hx y hy e
    obtain ⟨j, _, hx⟩ := List.mem_flatMap.mp hx
    obtain ⟨j', _, hy⟩ := List.mem_flatMap.mp hy
    obtain ⟨k, _, rfl⟩ := List.mem_map.mp hx
    obtain ⟨k', _, rfl⟩ := List.mem_map.mp hy
    simp at e; omega
  · simp at e; omega
theorem tri_len : tri.length = 2197 := by
  unfold tri
  simp [List.map_const', List.sum_replicate_nat]
theorem cube_len : 2000 < (mulT (mulT (mulT oneT (plT 39)) (plT 39)) (plT 39)).length := by
  have h : tri ⊆ keysT (mulT (mulT (mulT oneT (plT 39)) (plT 39)) (plT 39)) := fun x hx => by
    obtain ⟨i, hi, hx⟩ := List.mem_flatMap.mp hx
    obtain ⟨j, hj, hx⟩ := List.mem_flatMap.mp hx
    obtain ⟨k, hk, rfl⟩ := List.mem_map.mp hx
    have hi := List.mem_range.mp hi
    have hj := List.mem_range.mp hj
    have hk := List.mem_range.mp hk
    have h1 := mul_key (mul_key (mul_key (A := oneT) (p := []) (by simp [keysT, oneT]) (pl_key (i := i) (by omega))) (pl_key (i := 13 + j) (by omega))) (pl_key (i := 26 + k) (by omega))
    have e1 : mg [] [(i : Int)] = [(i : Int)] := isort_self (by simp)
    have e2 : mg [(i : Int)] [((13 + j : Nat) : Int)] = [(i : Int), ((13 + j : Nat) : Int)] := isort_self (by simp; omega)
    have e3 : mg [(i : Int), ((13 + j : Nat) : Int)] [((26 + k : Nat) : Int)] = [(i : Int), ((13 + j : Nat) : Int), ((26 + k : Nat) : Int)] := isort_self (by simp; omega)
    rw [e1, e2, e3] at h1
    exact h1
  have := tri_nd.length_le_of_subset h
  rw [tri_len] at this
  simp only [keysT, List.length_map] at this
  omega
theorem cube_far : toldO (fun _ => plT 39) (List.replicate 3 0) oneT = none := by
  have h := cube_len
  have e : (List.replicate 3 (0 : Int)) = [0, 0, 0] := rfl
  rw [e]
  simp only [toldO]
  rw [if_neg (Nat.not_le.mpr h)]
  split
  · split <;> rfl
  · rfl
theorem wide_far (m : Mem) : run ds 30 16 [shD (reps 3), .tup [shD (plT 39)]] m = .ok (.str "far") m :=
  s16far 29 ((wide9 (by omega) (by omega) m (.ok .non m)).2 (s8x 23 _ _ _ m (wide_ws (k := 3) (by omega)) cube_far))
end K39
end Mn
set_option Elab.async false
set_option linter.all false
set_option maxRecDepth 100000
set_option maxHeartbeats 1000000
namespace Mn
namespace K39
open PySem
theorem pureDs_of {n : Nat} : ∀ {xs : List D}, (∀ x ∈ xs, pureD n x = true) → pureDs n xs = true
  | [], _ => by simp [pureDs]
  | x :: xs, h => by
    have ih := pureDs_of (n := n) (xs := xs) fun y hy => h y (by simp [hy])
    simp [pureDs, h x (by simp), ih]
theorem sh_pure (A : Tm) : pureD 12 (shD A) = true := by
  unfold shD
  show pureDs 11 _ = true
  refine pureDs_of fun x hx => ?_
  rw [sort_mem, items_fP] at hx
  obtain ⟨t, _, rfl⟩ := List.mem_map.mp hx
  have h1 : pureD 10 (prD t.1) = true := by
    show pureDs 9 _ = true
    exact rowI_pure (k := 8) (prD_rows t.1)
  show pureDs 10 [prD t.1, .int t.2] = true
  simp [pureDs, h1, pureD]
theorem reps2_sh : shD (reps 2) = .tup [.tup [.tup [.tup [.int 0, .int 2]], .int 1]] := by
  have h : (kvK prD (reps 2)).map pairD = [.tup [.tup [.tup [.int 0, .int 2]], .int 1]] := by rfl
  unfold shD
  rw [h]
  simp [sortD]
theorem reps3_sh : shD (reps 3) = .tup [.tup [.tup [.tup [.int 0, .int 3]], .int 1]] := by
  have h : (kvK prD (reps 3)).map pairD = [.tup [.tup [.tup [.int 0, .int 3]], .int 1]] := by rfl
  unfold shD
  rw [h]
  simp [sortD]
theorem f20 (k : Nat) (hk : k ≤ 1000) (m : Mem) : run ds 30 20 [.int k] m = .ok (.loc (m.length + 1)) (m ++ [.lst ((kvK rowK (plT k)).map pairD), .dict (kvK rowK (plT k)) false]) := s20 29 k hk m
theorem pl_ls (k : Nat) (hk : k ≤ 2000) : LS (plT k) 2000 := ⟨pl_good k, by rw [pl_len]; exact hk, fun t ht => by have := (pl_sz t ht).1; omega⟩
theorem f14 {A B : Tm} {a b : Nat} {M : Mem} (va : LS A 2000) (vb : LS B 2000) (hb : ∀ u ∈ B, u.2 < 2 ^ 64) (hl : (mulT A B).length ≤ 900000) (hA : A.length * B.length ≤ 900000) (ha : M[a]? = some (.dict (kvK rowK A) false)) (hbb : M[b]? = some (.dict (kvK rowK B) false)) (hne : a ≠ b) :
    run ds 30 14 [.loc a, .loc b] M = .ok (.loc M.length) (M ++ [.dict (kvK rowK (mulT A B)) false]) := s14 29 va vb hb hl hA ha hbb hne
theorem right_ev (M : Mem) : ∃ x, ∀ ρ, xCall 15 (aCons (xCall 14 (aCons (xCall 20 (aCons (xLit (.int 39)) (aNil))) (aCons (xCall 20 (aCons (xLit (.int 39)) (aNil))) (aNil)))) (aNil)) (run ds 30) ρ M = .ok (shD (mulT (plT 39) (plT 39))) (M ++ x) := by
  have e1 := f20 39 (by omega) M
  have c1 : (M ++ [O.lst ((kvK rowK (plT 39)).map pairD), .dict (kvK rowK (plT 39)) false]).length = M.length + 2 := by simp
  have g1 : (M ++ [O.lst ((kvK rowK (plT 39)).map pairD), .dict (kvK rowK (plT 39)) false])[M.length + 1]? = some (.dict (kvK rowK (plT 39)) false) := by
    rw [List.getElem?_append_right (by omega)]; simp
  have q1 : ∃ x, M ++ [O.lst ((kvK rowK (plT 39)).map pairD), .dict (kvK rowK (plT 39)) false] = M ++ x := ⟨_, rfl⟩
  generalize M ++ [O.lst ((kvK rowK (plT 39)).map pairD), .dict (kvK rowK (plT 39)) false] = M1 at *
  have e2 := f20 39 (by omega) M1
  have g1' : (M1 ++ [O.lst ((kvK rowK (plT 39)).map pairD), .dict (kvK rowK (plT 39)) false])[M.length + 1]? = some (.dict (kvK rowK (plT 39)) false) := app_get g1
  have g2 : (M1 ++ [O.lst ((kvK rowK (plT 39)).map pairD), .dict (kvK rowK (plT 39)) false])[M1.length + 1]? = some (.dict (kvK rowK (plT 39)) false) := by
    rw [List.getElem?_append_right (by omega)]; simp
  have q2 : ∃ x, M1 ++ [O.lst ((kvK rowK (plT 39)).map pairD), .dict (kvK rowK (plT 39)) false] = M ++ x := by
    obtain ⟨x, rfl⟩ := q1
    exact ⟨_, List.append_assoc _ _ _⟩
  generalize M1 ++ [O.lst ((kvK rowK (plT 39)).map pairD), .dict (kvK rowK (plT 39)) false] = M2 at *
  have hlen := sq_len
  have e3 := f14 (M := M2) (a := M.length + 1) (b := M1.length + 1) (pl_ls 39 (by omega)) (pl_ls 39 (by omega)) (fun u hu => by rw [(pl_sz u hu).2]; omega) (by omega) (by rw [pl_len]; omega) g1' g2 (by omega)
  have g3 : (M2 ++ [O.dict (kvK rowK (mulT (plT 39) (plT 39))) false])[M2.length]? = some (.dict (kvK rowK (mulT (plT 39) (plT 39))) false) := by simp
  have q3 : ∃ x, M2 ++ [O.dict (kvK rowK (mulT (plT 39) (plT 39))) false] = M ++ x := by
    obtain ⟨x, rfl⟩ := q2
    exact ⟨_, List.append_assoc _ _ _⟩
  generalize M2 ++ [O.dict (kvK rowK (mulT (plT 39) (plT 39))) false] = M3 at *
  have e4 := f15 (M := M3) (a := M2.length) sq_good (acc_keys_of (P := fun p => p.length < 64) fun t ht => by
    simp only [pairsT, List.mem_flatMap, List.mem_map] at ht
    obtain ⟨a, ha, b, hb, rfl⟩ := ht
    have := (pl_sz a ha).1
    have := (pl_sz b hb).1
    show (isort _).length < 64
    rw [isort_len, List.length_append]; omega) (by omega) g3
  obtain ⟨x, rfl⟩ := q3
  refine ⟨x, fun ρ => ?_⟩
  generalize shD (mulT (plT 39) (plT 39)) = Z at *
  have e1' : run ds 30 20 [.int 39] M = .ok (.loc (M.length + 1)) M1 := e1
  have e2' : run ds 30 20 [.int 39] M1 = .ok (.loc (M1.length + 1)) M2 := e2
  simp [e1', e2', e3, e4]
theorem end_abs {fe : FE} {R : Den} {M x : Mem} {Z v : D} {sc : D} {t : Nat} (cl : ClM M) (o2 o4 o5 o6 o7 o8 o9 o10 o11 o12 o13 o14 o15 o16 : Option D) (hr : ∀ ρ, R fe ρ M = .ok Z (M ++ x)) (h1 : fe 16 [.tup [.tup [.tup [.tup [.int 0, .int 2]], .int 1]], .tup [v]] M = .ok Z M) (h2 : fe 16 [.tup [.tup [.tup [.tup [.int 0, .int 3]], .int 1]], .tup [v]] (M ++ x) = .ok (.str "far") (M ++ x)) (hp : pureD 12 Z = true) :
    sRet (xGc (xAnd (xBin opEq (xCall 16 (aCons (xTup (aCons (xTup (aCons (xTup (aCons (xTup (aCons (xLit (.int 0)) (aCons (xLit (.int 2)) (aNil)))) (aNil))) (aCons (xLit (.int 1)) (aNil)))) (aNil))) (aCons (xTup (aCons (xVar 3) (aNil))) (aNil)))) R) (xBin opEq (xCall 16 (aCons (xTup (aCons (xTup (aCons (xTup (aCons (xTup (aCons (xLit (.int 0)) (aCons (xLit (.int 3)) (aNil)))) (aNil))) (aCons (xLit (.int 1)) (aNil)))) (aNil))) (aCons (xTup (aCons (xVar 3) (aNil))) (aNil)))) (xLit (.str "far"))))) fe (Ev sc t o2 (some v) o4 o5 o6 o7 o8 o9 o10 o11 o12 o13 o14 o15 o16) M = .ret (.bl true) M := by
  have z := sizeLine_is
  have q1 := opEq_self (m := M ++ x) hp
  have q2 := opEq_self (m := M ++ x) (d := .str "far") (by decide +kernel)
  have hg := gcO_app (M := M) (v := .bl true) cl rfl x
  simp [Ev, hr, h1, h2, q1, q2, hg, z]
theorem ee22 : e22_4 = sRet (xGc (xAnd (xBin opEq (xCall 16 (aCons (xTup (aCons (xTup (aCons (xTup (aCons (xTup (aCons (xLit (.int 0)) (aCons (xLit (.int 2)) (aNil)))) (aNil))) (aCons (xLit (.int 1)) (aNil)))) (aNil))) (aCons (xTup (aCons (xVar 3) (aNil))) (aNil)))) (xCall 15 (aCons (xCall 14 (aCons (xCall 20 (aCons (xLit (.int 39)) (aNil))) (aCons (xCall 20 (aCons (xLit (.int 39)) (aNil))) (aNil)))) (aNil)))) (xBin opEq (xCall 16 (aCons (xTup (aCons (xTup (aCons (xTup (aCons (xTup (aCons (xLit (.int 0)) (aCons (xLit (.int 3)) (aNil)))) (aNil))) (aCons (xLit (.int 1)) (aNil)))) (aNil))) (aCons (xTup (aCons (xVar 3) (aNil))) (aNil)))) (xLit (.str "far"))))) := rfl
theorem wide_sq' (m : Mem) : run ds 30 16 [.tup [.tup [.tup [.tup [.int 0, .int 2]], .int 1]], .tup [.tup ((plT 39).map fP)]] m = .ok (shD (mulT (plT 39) (plT 39))) m := by
  rw [← reps2_sh, ← pl_sh]
  exact wide_sq m
theorem wide_far' (m : Mem) : run ds 30 16 [.tup [.tup [.tup [.tup [.int 0, .int 3]], .int 1]], .tup [.tup ((plT 39).map fP)]] m = .ok (.str "far") m := by
  rw [← reps3_sh, ← pl_sh]
  exact wide_far m
theorem end_ev {M : Mem} {sc : D} {t : Nat} (cl : ClM M) (o2 o4 o5 o6 o7 o8 o9 o10 o11 o12 o13 o14 o15 o16 : Option D) : e22_4 (run ds 30) (Ev sc t o2 (some (.tup ((plT 39).map fP))) o4 o5 o6 o7 o8 o9 o10 o11 o12 o13 o14 o15 o16) M = .ret (.bl true) M := by
  obtain ⟨x, hr⟩ := right_ev M
  rw [ee22]
  exact end_abs cl o2 o4 o5 o6 o7 o8 o9 o10 o11 o12 o13 o14 o15 o16 hr (wide_sq' M) (wide_far' (M ++ x)) (sh_pure _)
theorem gcO_ex (m m' : Mem) (v : D) : ∃ x, gcO m (.ok v m') = .ok v x := by
  simp only [gcO]
  split <;> exact ⟨_, rfl⟩
theorem law_true (ns : List Int) (h : ns.length ≤ 63) : ∃ m', run ds 31 22 [.seq (ns.map D.int)] [] = .ok (.bl true) m' := by
  obtain ⟨cs, sd, h10⟩ := (s10 29 ns h [] : ∃ (cs : List Int) (sd : Int), run ds 30 10 [.seq (ns.map D.int)] [] = .ok (.loc 1) ([] ++ [.lst (cs.map D.int), .lst [.loc 0, .int sd]]))
  rw [List.nil_append] at h10
  have tp : Tp 1 0 [O.lst (cs.map D.int), .lst [.loc 0, .int sd]] := ⟨by omega, cs, sd, rfl, rfl⟩
  have cl : ClM [O.lst (cs.map D.int), .lst [.loc 0, .int sd]] := fun o ho => by
    simp only [List.mem_cons, List.not_mem_nil, or_false] at ho
    rcases ho with rfl | rfl
    · exact int_closed _
    · simp [closedO, closeds, closed]
  generalize [O.lst (cs.map D.int), .lst [.loc 0, .int sd]] = M at *
  generalize hsc : D.seq (ns.map D.int) = sc at *
  obtain ⟨o2, o4, o5, o6, o7, o8, o9, o10, o11, o12, o13, M', f, g2⟩ := turns (sc := sc) tp cl
  have g0 : e22_0 (run ds 30) ([some sc] ++ List.replicate 16 none) [] = .next (Ev sc 1 none none none none none none none none none none none none none none none) M := by
    have hg : ∀ x, gcO [] (.ok (.loc 1) x) = .ok (.loc 1) x := fun x => by simp [gcO, closed]
    simp [e22_0, Ev, h10, hg, List.replicate]
  have g1 : e22_1 (run ds 30) (Ev sc 1 none none none none none none none none none none none none none none none) M = .next (Ev sc 1 none none none none none none none none none none none none none none none) M := by
    have := f13 (.int 2000) M rfl
    have hg := gcB_app (b := false) cl []
    rw [List.append_nil] at hg
    simp [e22_1, Ev, this, truth, hg]
  have g3 : e22_3 (run ds 30) (Ev sc 1 o2 none o4 o5 o6 o7 o8 o9 o10 o11 o12 o13 none none none) M' = .next (Ev sc 1 o2 (some (.tup ((plT 39).map fP))) o4 o5 o6 o7 o8 o9 o10 o11 o12 o13 none none none) M' := by
    have g := own_ev (ρ := Ev sc 1 o2 none o4 o5 o6 o7 o8 o9 o10 o11 o12 o13 none none none) (M := M') (cl := f.cl) (aCons (xLit (.int 39)) (aNil)) 39 (by omega) (by simp) (fun x => by simp [Ev, wipeE])
    have ec : e22_3 = sSet 3 (xGc (xCallF bTuple (aCons (xLc (iRange1 (aCons (xLit (.int 39)) (aNil))) (.nm 14) (tYesD) e9 [14]) (aNil)))) := rfl
    rw [ec, sSet_ev, g]
    rfl
  have g4 := end_ev (M := M') (sc := sc) (t := 1) f.cl o2 o4 o5 o6 o7 o8 o9 o10 o11 o12 o13 none none none
  have hb : d22 (run ds 30) ([some sc] ++ List.replicate 16 none) [] = .ret (.bl true) M' := by
    rw [ed22]
    exact seq_step g0 (seq_step g1 (seq_step g2 (seq_step g3 g4)))
  obtain ⟨x, hx⟩ := gcO_ex [] M' (.bl true)
  refine ⟨x, ?_⟩
  show gcO [] (bodyD 1 17 d22 (run ds 30) [sc] []) = _
  rw [bodyD_ev (by rfl)]
  have hb' : d22 (run ds 30) (List.map some [sc] ++ List.replicate (17 - 1) none) [] = .ret (.bl true) M' := hb
  rw [hb']
  exact hx
end K39
end Mn
set_option Elab.async false
set_option linter.all false
set_option maxRecDepth 100000
set_option maxHeartbeats 4000000
open PySem PySem.W PyProof.Rows in
set_option maxRecDepth 100000 in
set_option maxHeartbeats 0 in
theorem PySem.Challenge.cw_whyanswers_k39_sums_put_into_sums_holds : PySem.Challenge.rw_whyanswers_k39_sums_put_into_sums.Holds := by
  w_on; o_law; k_head; (case hw => w_witness2)
  k_fill
  refine Mn.walk (l := PySem.Challenge.rw_whyanswers_k39_sums_put_into_sums) (T := Mn.K39.tx) (ds := Mn.K39.ds) (n := 30) (j := 22) (d := Mn.K39.n22) (x := "script") rfl rfl ⟨rfl, by decide, by decide⟩ (fun w h Y => PySem.W.kIn_of Y) Mn.K39.ds_ok rfl rfl rfl ?F Mn.K39.law_true
  case F =>
    intro w mg h KX G
    open Mn Mn.K39 L2 in
    refine' top_mk [_, _, _, _, _, _, _, _, _, _, _, _, _, _, _, _, _, _, _, _, _, _, _] [_, _, _] rfl ⟨DefAt.of KX G bd0 ?mn_a0 ?mn_l0 ?mn_c0 ?mn_k0, DefAt.of KX G bd1 ?mn_a1 ?mn_l1 ?mn_c1 ?mn_k1, DefAt.of KX G bd2 ?mn_a2 ?mn_l2 ?mn_c2 ?mn_k2, DefAt.of KX G bd3 ?mn_a3 ?mn_l3 ?mn_c3 ?mn_k3, DefAt.of KX G bd4 ?mn_a4 ?mn_l4 ?mn_c4 ?mn_k4, DefAt.of KX G bd5 ?mn_a5 ?mn_l5 ?mn_c5 ?mn_k5, DefAt.of KX G bd6 ?mn_a6 ?mn_l6 ?mn_c6 ?mn_k6, DefAt.of KX G bd7 ?mn_a7 ?mn_l7 ?mn_c7 ?mn_k7, DefAt.of KX G bd8 ?mn_a8 ?mn_l8 ?mn_c8 ?mn_k8, DefAt.of KX G bd9 ?mn_a9 ?mn_l9 ?mn_c9 ?mn_k9, DefAt.of KX G bd10 ?mn_a10 ?mn_l10 ?mn_c10 ?mn_k10, DefAt.of KX G bd11 ?mn_a11 ?mn_l11 ?mn_c11 ?mn_k11, DefAt.of KX G bd12 ?mn_a12 ?mn_l12 ?mn_c12 ?mn_k12, DefAt.of KX G bd13 ?mn_a13 ?mn_l13 ?mn_c13 ?mn_k13, DefAt.of KX G bd14 ?mn_a14 ?mn_l14 ?mn_c14 ?mn_k14, DefAt.of KX G bd15 ?mn_a15 ?mn_l15 ?mn_c15 ?mn_k15, DefAt.of KX G bd16 ?mn_a16 ?mn_l16 ?mn_c16 ?mn_k16, DefAt.of KX G bd17 ?mn_a17 ?mn_l17 ?mn_c17 ?mn_k17, DefAt.of KX G bd18 ?mn_a18 ?mn_l18 ?mn_c18 ?mn_k18, DefAt.of KX G bd19 ?mn_a19 ?mn_l19 ?mn_c19 ?mn_k19, DefAt.of KX G bd20 ?mn_a20 ?mn_l20 ?mn_c20 ?mn_k20, DefAt.of KX G bd21 ?mn_a21 ?mn_l21 ?mn_c21 ?mn_k21, DefAt.of KX G bd22 ?mn_a22 ?mn_l22 ?mn_c22 ?mn_k22, trivial⟩ ⟨PySem.W.mg_none_of KX G ?mn_z0, PySem.W.mg_none_of KX G ?mn_z1, PySem.W.mg_none_of KX G ?mn_z2, PySem.W.mg_none_of KX G ?mn_z3, PySem.W.mg_none_of KX G ?mn_z4, PySem.W.mg_none_of KX G ?mn_z5, PySem.W.mg_none_of KX G ?mn_z6, PySem.W.mg_none_of KX G ?mn_z7, PySem.W.mg_none_of KX G ?mn_z8, PySem.W.mg_none_of KX G ?mn_z9, PySem.W.mg_none_of KX G ?mn_z10, PySem.W.mg_none_of KX G ?mn_z11, PySem.W.mg_none_of KX G ?mn_z12, PySem.W.mg_none_of KX G ?mn_z13, PySem.W.mg_none_of KX G ?mn_z14, trivial⟩ ⟨CnAt.of KX G ?mn_g0 ?mn_h0, CnAt.of KX G ?mn_g1 ?mn_h1, CnAt.of KX G ?mn_g2 ?mn_h2, trivial⟩ ⟨ExAt.plain KX G ?mn_Ca0 ?mn_Ck0 ?mn_Cs0 ?mn_Ct0 ?mn_Cq0, ExAt.plain KX G ?mn_Ca1 ?mn_Ck1 ?mn_Cs1 ?mn_Ct1 ?mn_Cq1, ExAt.plain KX G ?mn_Ca2 ?mn_Ck2 ?mn_Cs2 ?mn_Ct2 ?mn_Cq2, trivial⟩ ⟨⟨exm_of (b := true) ?mn_Cs0 ?mn_Cz0 ?mn_Ct0 ?mn_S0_0 rfl, exm_of (b := true) ?mn_Cs0 ?mn_Cz0 ?mn_Ct0 ?mn_S0_1 rfl, exm_of (b := true) ?mn_Cs0 ?mn_Cz0 ?mn_Ct0 ?mn_S0_2 rfl, trivial⟩, ⟨exm_of (b := false) ?mn_Cs1 ?mn_Cz1 ?mn_Ct1 ?mn_S1_0 rfl, exm_of (b := true) ?mn_Cs1 ?mn_Cz1 ?mn_Ct1 ?mn_S1_1 rfl, exm_of (b := false) ?mn_Cs1 ?mn_Cz1 ?mn_Ct1 ?mn_S1_2 rfl, trivial⟩, ⟨exm_of (b := false) ?mn_Cs2 ?mn_Cz2 ?mn_Ct2 ?mn_S2_0 rfl, exm_of (b := false) ?mn_Cs2 ?mn_Cz2 ?mn_Ct2 ?mn_S2_1 rfl, exm_of (b := true) ?mn_Cs2 ?mn_Cz2 ?mn_Ct2 ?mn_S2_2 rfl, trivial⟩, trivial⟩
    (case mn_a0 => k_is)
    (case mn_l0 => k_is)
    (case mn_c0 => k_is)
    (case mn_k0 => k_is)
    (case mn_a1 => k_is)
    (case mn_l1 => k_is)
    (case mn_c1 => k_is)
    (case mn_k1 => k_is)
    (case mn_a2 => k_is)
    (case mn_l2 => k_is)
    (case mn_c2 => k_is)
    (case mn_k2 => k_is)
    (case mn_a3 => k_is)
    (case mn_l3 => k_is)
    (case mn_c3 => k_is)
    (case mn_k3 => k_is)
    (case mn_a4 => k_is)
    (case mn_l4 => k_is)
    (case mn_c4 => k_is)
    (case mn_k4 => k_is)
    (case mn_a5 => k_is)
    (case mn_l5 => k_is)
    (case mn_c5 => k_is)
    (case mn_k5 => k_is)
    (case mn_a6 => k_is)
    (case mn_l6 => k_is)
    (case mn_c6 => k_is)
    (case mn_k6 => k_is)
    (case mn_a7 => k_is)
    (case mn_l7 => k_is)
    (case mn_c7 => k_is)
    (case mn_k7 => k_is)
    (case mn_a8 => k_is)
    (case mn_l8 => k_is)
    (case mn_c8 => k_is)
    (case mn_k8 => k_is)
    (case mn_a9 => k_is)
    (case mn_l9 => k_is)
    (case mn_c9 => k_is)
    (case mn_k9 => k_is)
    (case mn_a10 => k_is)
    (case mn_l10 => k_is)
    (case mn_c10 => k_is)
    (case mn_k10 => k_is)
    (case mn_a11 => k_is)
    (case mn_l11 => k_is)
    (case mn_c11 => k_is)
    (case mn_k11 => k_is)
    (case mn_a12 => k_is)
    (case mn_l12 => k_is)
    (case mn_c12 => k_is)
    (case mn_k12 => k_is)
    (case mn_a13 => k_is)
    (case mn_l13 => k_is)
    (case mn_c13 => k_is)
    (case mn_k13 => k_is)
    (case mn_a14 => k_is)
    (case mn_l14 => k_is)
    (case mn_c14 => k_is)
    (case mn_k14 => k_is)
    (case mn_a15 => k_is)
    (case mn_l15 => k_is)
    (case mn_c15 => k_is)
    (case mn_k15 => k_is)
    (case mn_a16 => k_is)
    (case mn_l16 => k_is)
    (case mn_c16 => k_is)
    (case mn_k16 => k_is)
    (case mn_a17 => k_is)
    (case mn_l17 => k_is)
    (case mn_c17 => k_is)
    (case mn_k17 => k_is)
    (case mn_a18 => k_is)
    (case mn_l18 => k_is)
    (case mn_c18 => k_is)
    (case mn_k18 => k_is)
    (case mn_a19 => k_is)
    (case mn_l19 => k_is)
    (case mn_c19 => k_is)
    (case mn_k19 => k_is)
    (case mn_a20 => k_is)
    (case mn_l20 => k_is)
    (case mn_c20 => k_is)
    (case mn_k20 => k_is)
    (case mn_a21 => k_is)
    (case mn_l21 => k_is)
    (case mn_c21 => k_is)
    (case mn_k21 => k_is)
    (case mn_a22 => k_is)
    (case mn_l22 => k_is)
    (case mn_c22 => k_is)
    (case mn_k22 => k_is)
    (case mn_z0 => k_is)
    (case mn_z1 => k_is)
    (case mn_z2 => k_is)
    (case mn_z3 => k_is)
    (case mn_z4 => k_is)
    (case mn_z5 => k_is)
    (case mn_z6 => k_is)
    (case mn_z7 => k_is)
    (case mn_z8 => k_is)
    (case mn_z9 => k_is)
    (case mn_z10 => k_is)
    (case mn_z11 => k_is)
    (case mn_z12 => k_is)
    (case mn_z13 => k_is)
    (case mn_z14 => k_is)
    (case mn_g0 => k_is)
    (case mn_h0 => (exact ⟨_, rfl⟩))
    (case mn_g1 => k_is)
    (case mn_h1 => (exact ⟨_, rfl⟩))
    (case mn_g2 => k_is)
    (case mn_h2 => (apply Exists.intro; apply Exists.intro; apply Exists.intro; apply Exists.intro; (refine ⟨rfl, ?_, ?_, ?_, ?_, ?_, ?_⟩); (k_is); (rfl); (rfl); (rfl); (decide); (apply Exists.intro; apply Exists.intro; (refine ⟨rfl, ?_, ?_⟩)); (apply Exists.intro; apply Exists.intro; apply Exists.intro; apply Exists.intro; (refine ⟨rfl, ?_, ?_, ?_, ?_, ?_, ?_⟩); (k_is); (rfl); (rfl); (rfl); (decide); (apply Exists.intro; apply Exists.intro; (refine ⟨rfl, ?_, ?_⟩)); (apply Exists.intro; apply Exists.intro; apply Exists.intro; apply Exists.intro; (refine ⟨rfl, ?_, ?_, ?_, ?_, ?_, ?_⟩); (k_is); (rfl); (rfl); (rfl); (decide); (rfl)); (apply Exists.intro; apply Exists.intro; (refine ⟨rfl, ?_, ?_⟩)); (exact ⟨_, rfl⟩); (rfl)); (rfl)))
    (case mn_Ca0 => k_is)
    (case mn_Ck0 => k_is)
    (case mn_Cs0 => k_is)
    (case mn_Ct0 => k_is)
    (case mn_Cq0 => first | kernel_rfl | rfl)
    (case mn_Ca1 => k_is)
    (case mn_Ck1 => k_is)
    (case mn_Cs1 => k_is)
    (case mn_Ct1 => k_is)
    (case mn_Cq1 => first | kernel_rfl | rfl)
    (case mn_Ca2 => k_is)
    (case mn_Ck2 => k_is)
    (case mn_Cs2 => k_is)
    (case mn_Ct2 => k_is)
    (case mn_Cq2 => first | kernel_rfl | rfl)
    (case mn_Cz0 => k_is)
    (case mn_S0_0 => first | rfl | k_is)
    (case mn_S0_1 => first | rfl | k_is)
    (case mn_S0_2 => first | rfl | k_is)
    (case mn_Cz1 => k_is)
    (case mn_S1_0 => first | rfl | k_is)
    (case mn_S1_1 => first | rfl | k_is)
    (case mn_S1_2 => first | rfl | k_is)
    (case mn_Cz2 => k_is)
    (case mn_S2_0 => first | rfl | k_is)
    (case mn_S2_1 => first | rfl | k_is)
    (case mn_S2_2 => first | rfl | k_is)
#print axioms PySem.Challenge.cw_whyanswers_k39_sums_put_into_sums_holds
