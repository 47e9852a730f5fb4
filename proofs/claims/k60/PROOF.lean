import PyProof.Rows.All
import Wide.All
import OpenK.AllK
import Wide.FinOn
import KE.SortData
import HandS.ForMost
import HandS.TupAny
import HandS.Deep
import KE.KDictKeyed
import HandS.Exc
import HandS.ExcOwn
import HandS.TryMany
import HandS.ExcInit
import HandS.CallSlots
import HandS.Style
import HandS.Flow
import HandS.IsInst
import HandS.Text
import KE.KDictCopyH
import PyProof.SeqIndex
import KE.KIndexOf
import HandS.DictTup
import PyProof.TupleOfSeq
import KE.KDictSum
import KE.DataFind
import KE.KDictLaws
import HandS.Strs
import HandS.Comp
import HandS.Iter
import HandS.Zip
import PyProof.Rows.TupDisplay
import HandS.Dict
import HandS.Small
import HandS.WordsExc
import HandS.RaiseMore
import HandS.CallLocal
import HandS.ExcField
import HandS.Ends
import PySem.Challenge.RW_whyanswers_k60_changes_of_tables
import KE.KExcLine
set_option Elab.async false
set_option linter.all false
set_option maxRecDepth 100000
set_option maxHeartbeats 1000000
/-! Mn0: < of data that can be compared at the first place where they differ; sorting such. -/
namespace Mn
open PySem PySem.W PySem.SeqAt PyProof.Rows PySem.Calls

mutual
/-- x < y is told: of one kind, or tuples whose first places that differ are such -/
def comp : PyData → PyData → Bool
  | .bool _, .bool _ => true
  | .int _, .int _ => true
  | .str _, .str _ => true
  | .tuple xs, .tuple ys => compAll xs ys
  | _, _ => false
def compAll : List PyData → List PyData → Bool
  | x :: xs, y :: ys => if PyData.eqv x y = true then compAll xs ys else comp x y
  | [], _ => true
  | _ :: _, [] => true
end
theorem lay_cons {x : PyData} {xs : List PyData} (h : PyData.canLayAll0 (x :: xs) = true) : x.canLay0 = true ∧ PyData.canLayAll0 xs = true := by simpa [PyData.canLayAll0] using h
mutual
theorem eqv_toks : ∀ (x y : PyData), x.canLay0 = true → PyData.eqv x y = true → keyToks x = keyToks y
  | .none, y, _, h => by cases y <;> simp [PyData.eqv] at h; rfl
  | .bool a, y, _, h => by
    cases y <;> simp [PyData.eqv] at h
    · subst h; rfl
    · simp [keyToks, ← h]
  | .int a, y, _, h => by
    cases y <;> simp [PyData.eqv] at h
    · simp [keyToks, h]
    · subst h; rfl
  | .str a, y, _, h => by
    cases y <;> simp [PyData.eqv] at h
    subst h; rfl
  | .list xs, y, l, h => by
    cases y <;> simp [PyData.eqv] at h
    simp only [keyToks]
    exact eqvAll_toks xs _ (by simpa [PyData.canLay0] using l) h
  | .tuple xs, y, l, h => by
    cases y <;> simp [PyData.eqv] at h
    simp only [keyToks]
    exact eqvAll_toks xs _ (by simpa [PyData.canLay0] using l) h
  | .dict _, y, l, h => by simp [PyData.canLay0] at l
theorem eqvAll_toks : ∀ (xs ys : List PyData), PyData.canLayAll0 xs = true → PyData.eqvAll xs ys = true → keyToksAll xs = keyToksAll ys
  | [], ys, _, h => by cases ys <;> simp [PyData.eqvAll] at h; rfl
  | x :: xs, ys, l, h => by
    cases ys with
    | nil => simp [PyData.eqvAll] at h
    | cons y ys =>
      simp [PyData.eqvAll] at h
      obtain ⟨l1, l2⟩ := lay_cons l
      rw [toks_all_cons, toks_all_cons, eqv_toks x y l1 h.1, eqvAll_toks xs ys l2 h.2]
end
mutual
theorem comp_lex : ∀ (x y : PyData), x.canLay0 = true → comp x y = true → PyData.eqv x y = false → ∀ l m, lexLt itemOrd (keyToks x ++ l) (keyToks y ++ m) = lexLt itemOrd (keyToks x) (keyToks y)
  | .none, y, _, h, _ => absurd h (by simp [comp])
  | .bool a, y, _, h, e => by
    cases y with
    | bool b =>
      intro l m
      have hne : a ≠ b := fun q => by subst q; simp [PyData.eqv] at e
      simp only [keyToks, List.cons_append, List.nil_append]
      refine lex_atom (fun q => hne ?_) l m
      have q' := Sum.inl.inj q
      cases a <;> cases b <;> simp_all
    | _ => exact absurd h (by simp [comp])
  | .int a, y, _, h, e => by
    cases y with
    | int b =>
      intro l m
      have hne : a ≠ b := fun q => by subst q; simp [PyData.eqv] at e
      simp only [keyToks, List.cons_append, List.nil_append]
      exact lex_atom (fun q => hne (Sum.inl.inj q)) l m
    | _ => exact absurd h (by simp [comp])
  | .str a, y, _, h, e => by
    cases y with
    | str b =>
      intro l m
      have hne : a ≠ b := fun q => by subst q; simp [PyData.eqv] at e
      simp only [keyToks, List.cons_append, List.nil_append]
      exact lex_atom (fun q => hne (str_of_cps (Sum.inr.inj q))) l m
    | _ => exact absurd h (by simp [comp])
  | .list _, y, _, h, _ => absurd h (by simp [comp])
  | .tuple xs, y, lx, h, e => by
    cases y with
    | tuple ys =>
      intro l m
      simp only [keyToks]
      exact compAll_lex xs ys (by simpa [PyData.canLay0] using lx) (by simpa [comp] using h) (by simpa [PyData.eqv] using e) l m
    | _ => exact absurd h (by simp [comp])
  | .dict _, y, l, _, _ => by simp [PyData.canLay0] at l
theorem compAll_lex : ∀ (xs ys : List PyData), PyData.canLayAll0 xs = true → compAll xs ys = true → PyData.eqvAll xs ys = false → ∀ l m, lexLt itemOrd (keyToksAll xs ++ l) (keyToksAll ys ++ m) = lexLt itemOrd (keyToksAll xs) (keyToksAll ys)
  | [], [], _, _, e => absurd e (by simp [PyData.eqvAll])
  | [], y :: ys, _, _, e => fun l m => by
      simp only [keyToksAll, List.cons_append, List.nil_append]
      exact (lex_atom (by simp) _ _).trans (lex_atom (by simp) _ _).symm
  | x :: xs, [], _, _, e => fun l m => by
      simp only [keyToksAll, List.cons_append, List.nil_append]
      exact (lex_atom (by simp) _ _).trans (lex_atom (by simp) _ _).symm
  | x :: xs, y :: ys, lx, h, e => by
    obtain ⟨l1, l2⟩ := lay_cons lx
    rw [eqv_all_cons] at e
    rw [compAll] at h
    rw [toks_all_cons, toks_all_cons]
    intro l m
    cases hx : PyData.eqv x y with
    | true =>
      rw [hx] at h e
      simp only [if_true] at h
      rw [Bool.true_and] at e
      rw [eqv_toks x y l1 hx]
      simp only [List.cons_append, List.append_assoc]
      exact (lex_self (O := itemOrd) _ _ _).trans ((lex_pre _ _ _).trans ((compAll_lex xs ys l2 h e l m).trans ((lex_pre _ _ _).symm.trans (lex_self (O := itemOrd) _ _ _).symm)))
    | false =>
      rw [hx] at h
      simp only [Bool.false_eq_true, if_false] at h
      simp only [List.cons_append, List.append_assoc]
      exact (lex_self (O := itemOrd) _ _ _).trans ((comp_lex x y l1 h hx _ _).trans ((comp_lex x y l1 h hx _ _).symm.trans (lex_self (O := itemOrd) _ _ _).symm))
end
theorem lt_yes {x y : PyData} {xs ys : List PyData} (l : x.canLay0 = true) (e : PyData.eqv x y = true) : lexLt itemOrd (keyToksAll (x :: xs)) (keyToksAll (y :: ys)) = lexLt itemOrd (keyToksAll xs) (keyToksAll ys) := by
  rw [toks_all_cons, toks_all_cons, eqv_toks x y l e]
  exact (lex_self (O := itemOrd) _ _ _).trans (lex_pre _ _ _)
theorem lt_no {x y : PyData} {xs ys : List PyData} (l : x.canLay0 = true) (h : comp x y = true) (e : PyData.eqv x y = false) : lexLt itemOrd (keyToksAll (x :: xs)) (keyToksAll (y :: ys)) = dataLt x y := by
  rw [toks_all_cons, toks_all_cons]
  exact (lex_self (O := itemOrd) _ _ _).trans (comp_lex x y l h e _ _)
theorem first_toks : ∀ (xs ys : List PyData), PyData.canLayAll0 xs = true → compAll xs ys = true →
    firstLt (pairEq xs ys) (fun j => dataLt (xs.getD j .none) (ys.getD j .none)) (decide (xs.length < ys.length)) (List.range (min xs.length ys.length)) = lexLt itemOrd (keyToksAll xs) (keyToksAll ys)
  | [], [], _, _ => by simp [firstLt, keyToksAll, lex_irrefl]
  | [], y :: ys, _, _ => by
    rw [toks_all_cons]
    simp only [keyToksAll]
    rw [lex_diff (O := itemOrd) (by simp)]
    simp [firstLt, itemLt]
  | x :: xs, [], _, _ => by
    rw [toks_all_cons]
    simp only [keyToksAll]
    rw [lex_diff (O := itemOrd) (by simp)]
    simp [firstLt, itemLt]
  | x :: xs, y :: ys, lx, h => by
    obtain ⟨l1, l2⟩ := lay_cons lx
    rw [compAll] at h
    have em : min (x :: xs).length (y :: ys).length = min xs.length ys.length + 1 := by
      rw [List.length_cons, List.length_cons]
      omega
    have ed : decide ((x :: xs).length < (y :: ys).length) = decide (xs.length < ys.length) := by
      rw [List.length_cons, List.length_cons]
      exact decide_eq_decide.mpr (by omega)
    rw [em, ed, List.range_succ_eq_map]
    cases hx : PyData.eqv x y with
    | true =>
      rw [hx] at h
      simp only [if_true] at h
      have ih := first_toks xs ys l2 h
      rw [firstLt_yes (show pairEq (x :: xs) (y :: ys) 0 = true from hx), firstLt_map, lt_yes l1 hx, ← ih]
      rfl
    | false =>
      rw [hx] at h
      simp only [Bool.false_eq_true, if_false] at h
      rw [firstLt_no (show pairEq (x :: xs) (y :: ys) 0 = false from hx), lt_no l1 h hx]
      rfl
/-- a < b of tuples, where the first place that differs has a < (later ones need none) -/
theorem tupLtAt (l b : Addr) (items items2 : Array Value) (n n2 : Nat) (dd dd2 : Option Addr) (sl sl2 : Array (Option Value)) (e r : Nat → Bool) :
    Meets (Builtin.«tuple.__lt__» ⟨[.ref l, .ref b], []⟩)
      (fun A R s => s.heap.get? l = some { cls := .type "tuple", dict := dd, data := .seq items n, slots := sl } ∧ s.heap.get? b = some { cls := .type "tuple", dict := dd2, data := .seq items2 n2, slots := sl2 } ∧
        (∀ j (h1 : j < items.size) (h2 : j < items2.size), EqAt A.in1 s items[j] items2[j] (e j)) ∧ (∀ j (h1 : j < items.size) (h2 : j < items2.size), e j = false → (∀ i, i < j → e i = true) → RcLt A.in1 s items[j] items2[j] (r j)) ∧
        R (.ok (.ret (.bool (firstLt e r (decide (items.size < items2.size)) (List.range (min items.size items2.size)))))) s) :=
  .of_wp fun prog w A R s h => by
    obtain ⟨hp, g, d, tk, os⟩ := s; obtain ⟨hl, hb, he, hr, h⟩ := h
    have f2 := AutoSeq1.sub_tuple_tuple
    have hZ : (items.toList.zip items2.toList).length = min items.size items2.size := by simp
    wp_walk using AutoSeq1.wpAny_loadPart' hl, AutoSeq1.wpAny_loadPart' hb, wpAny_forIn_list _ (fun rest b s' => b.1 = none ∧ s' = ⟨hp, g, d, tk, os⟩ ∧ ∃ i, rest = (items.toList.zip items2.toList).drop i ∧ (∀ k, k < i → e k = true) ∧
      R (.ok (.ret (.bool (firstLt e r (decide (items.size < items2.size)) ((List.range (min items.size items2.size)).drop i))))) ⟨hp, g, d, tk, os⟩) _
    case turn =>
      rintro ⟨y, x⟩ rest b s' ⟨hb', rfl, i, hz, hpre, hR⟩
      have hlt : i < (items.toList.zip items2.toList).length := by
        rcases Nat.lt_or_ge i (items.toList.zip items2.toList).length with h' | h'
        · exact h'
        · rw [List.drop_of_length_le h'] at hz; cases hz
      have hm : i < min items.size items2.size := hZ ▸ hlt
      have h1 : i < items.size := Nat.lt_of_lt_of_le hm (Nat.min_le_left _ _)
      have h2 : i < items2.size := Nat.lt_of_lt_of_le hm (Nat.min_le_right _ _)
      rw [List.drop_eq_getElem_cons hlt] at hz
      injection hz with hyx hrest
      have hy : y = items[i] := by have := congrArg Prod.fst hyx; simpa using this
      have hx : x = items2[i] := by have := congrArg Prod.snd hyx; simpa using this
      subst hy hx
      have hd : (List.range (min items.size items2.size)).drop i = i :: (List.range (min items.size items2.size)).drop (i + 1) := by simp [List.drop_eq_getElem_cons, hm]
      rw [hd] at hR
      refine wpAny_bind (he i h1 h2 prog w _ _ ?_)
      cases hy : e i with
      | true =>
        rw [firstLt_yes hy] at hR
        wp_walk
        refine ⟨rfl, rfl, i + 1, hrest, fun k hk => ?_, hR⟩
        rcases Nat.lt_succ_iff_lt_or_eq.mp hk with q | rfl
        · exact hpre k q
        · exact hy
      | false =>
        rw [firstLt_no hy] at hR
        refine wpAny_bind (wpAny_rule ?_)
        refine wpAny_bind (hr i h1 h2 hy hpre prog w _ _ ?_)
        wp_walk
        exact ⟨_, rfl, hR⟩
    case fin =>
      rintro ⟨b1, b2⟩ s' ⟨hb', rfl, i, hz, hpre, hR⟩
      simp only at hb'
      subst hb'
      have hge : min items.size items2.size ≤ i := by
        rcases Nat.lt_or_ge i (items.toList.zip items2.toList).length with h' | h'
        · rw [List.drop_eq_getElem_cons h'] at hz; cases hz
        · exact hZ ▸ h'
      rw [List.drop_of_length_le (by simpa using hge)] at hR
      wp_walk
      exact ⟨_, rfl, by simpa [Builtin.Tuple.tupleCompareSizes, firstLt] using hR⟩
    case h =>
      exact ⟨rfl, rfl, 0, rfl, fun _ h => absurd h (Nat.not_lt_zero _), by simpa using h⟩
theorem tupLt {A : Around} {s : Shared} {l b : Addr} {items items2 : Array Value} {e r : Nat → Bool} (hl : s.heap.IsTuple l items) (hb : s.heap.IsTuple b items2) (hu : A.units < cLine)
    (he : ∀ j (h1 : j < items.size) (h2 : j < items2.size), EqAt A.in1 s items[j] items2[j] (e j)) (hr : ∀ j (h1 : j < items.size) (h2 : j < items2.size), e j = false → (∀ i, i < j → e i = true) → RcLt A.in1 s items[j] items2[j] (r j)) :
    RcLt A s (.ref l) (.ref b) (firstLt e r (decide (items.size < items2.size)) (List.range (min items.size items2.size))) := fun prog w E Q h => by
  obtain ⟨⟨cls, dd, data, sl⟩, ho, hc, n, hd⟩ := id hl
  obtain ⟨⟨cls2, dd2, data2, sl2⟩, ho2, hc2, n2, hd2⟩ := id hb
  simp only at hc hd hc2 hd2
  subst hc hd hc2 hd2
  exact richCompare_meets_room (op := .Lt) ⟨_, ho, rfl⟩ ⟨_, ho2, rfl⟩ PySem.F.slot_tuple_lt PySem.F.entry_tuple_lt (PySem.F.args_tuple_lt_2 _ _) (tupLtAt l b items items2 n n2 dd dd2 sl sl2 e r)
    ⟨ho, ho2, he, hr, show Value.bool (firstLt e r (decide (items.size < items2.size)) (List.range (min items.size items2.size))) ≠ Value.notImplemented ∧ Q (.bool (firstLt e r (decide (items.size < items2.size)) (List.range (min items.size items2.size)))) s from ⟨(fun x => nomatch x), h⟩⟩ hu
theorem call_tupLt {A : Around} {s : Shared} {prog : Program} {w : World} {E : Value → Shared → Prop} {Q : Value → Shared → Prop} {l b : Addr} {items items2 : Array Value} {e r : Nat → Bool} (hl : s.heap.IsTuple l items) (hb : s.heap.IsTuple b items2)
    (he : ∀ j (h1 : j < items.size) (h2 : j < items2.size), EqAt A.in1 s items[j] items2[j] (e j)) (hr : ∀ j (h1 : j < items.size) (h2 : j < items2.size), e j = false → (∀ i, i < j → e i = true) → RcLt A.in1 s items[j] items2[j] (r j))
    (h : Q (.bool (firstLt e r (decide (items.size < items2.size)) (List.range (min items.size items2.size)))) s) : wpAny (model prog w) A (call (.builtin "tuple.__lt__") [.ref l, .ref b]) Q E s := by
  obtain ⟨⟨cls, dd, data, sl⟩, ho, hc, n, hd⟩ := id hl
  obtain ⟨⟨cls2, dd2, data2, sl2⟩, ho2, hc2, n2, hd2⟩ := id hb
  simp only at hc hd hc2 hd2
  subst hc hd hc2 hd2
  exact call_meets PySem.F.slot_tuple_lt ⟨_, ho, rfl⟩ PySem.F.entry_tuple_lt (PySem.F.args_tuple_lt_2 _ _) (tupLtAt l b items items2 n n2 dd dd2 sl sl2 e r) ⟨ho, ho2, he, hr, h⟩
mutual
theorem comp_run : ∀ (da db : PyData) (A : Around) (s : Shared) (a b : Value) (as bs : List Addr), Reads s.heap a da as → Reads s.heap b db bs → da.canLay0 = true → db.canLay0 = true → comp da db = true → A.units + min da.depth db.depth < cLine → RcLt A s a b (dataLt da db)
  | .none, _, _, _, _, _, _, _, _, _, _, _, h, _ => absurd h (by simp [comp])
  | .bool x, db, A, s, a, b, as, bs, ra, rb, _, _, h, _ => by
    cases db with
    | bool y =>
      cases ra
      cases rb
      intro prog w E Q hq
      rw [dataLt_bool] at hq
      exact lt_bool hq
    | _ => exact absurd h (by simp [comp])
  | .int x, db, A, s, a, b, as, bs, ra, rb, _, _, h, _ => by
    cases db with
    | int y =>
      cases ra
      cases rb
      intro prog w E Q hq
      rw [dataLt_int] at hq
      exact P.lt_int hq
    | _ => exact absurd h (by simp [comp])
  | .str x, db, A, s, a, b, as, bs, ra, rb, _, _, h, _ => by
    cases db with
    | str y =>
      cases ra
      cases rb
      intro prog w E Q hq
      rw [dataLt_str] at hq
      exact P.lt_str hq
    | _ => exact absurd h (by simp [comp])
  | .list _, _, _, _, _, _, _, _, _, _, _, _, h, _ => absurd h (by simp [comp])
  | .tuple xs, db, A, s, a, b, as, bs, ra, rb, l, l', h, hu => by
    cases db with
    | tuple ys =>
      have hal : compAll xs ys = true := by simpa [comp] using h
      have lx : PyData.canLayAll0 xs = true := by simpa [PyData.canLay0] using l
      have ly : PyData.canLayAll0 ys = true := by simpa [PyData.canLay0] using l'
      cases ra with
      | @tuple l o vs n _ as₁ h1 h2 h3 h4 =>
        cases rb with
        | @tuple l' o' vs' n' _ bs₁ k1 k2 k3 k4 =>
          have n1 : vs.size = xs.length := by simpa using ReadsAll.length _ _ _ h4
          have n2 : vs'.size = ys.length := by simpa using ReadsAll.length _ _ _ k4
          rw [dataLt_tuple, ← first_toks xs ys lx hal, ← n1, ← n2]
          refine tupLt ⟨_, h1, h2, _, h3⟩ ⟨_, k1, k2, _, k3⟩ (room_here hu) (fun j j1 j2 => ?_) fun j j1 j2 hj hp => ?_
          · have := eqAt_readsAll xs ys A.in1 s vs.toList vs'.toList _ _ h4 k4 lx ly (room_in hu) j (by simpa using j1) (by simpa using j2)
            simpa using this
          · have := compAll_run xs ys A.in1 s vs.toList vs'.toList _ _ h4 k4 lx ly hal (room_in hu) j (by simpa using j1) (by simpa using j2) hj hp
            simpa using this
    | _ => exact absurd h (by simp [comp])
  | .dict _, _, _, _, _, _, _, _, _, _, _, _, h, _ => absurd h (by simp [comp])
theorem compAll_run : ∀ (xs ys : List PyData) (A : Around) (s : Shared) (vs ws : List Value) (as bs : List Addr), ReadsAll s.heap vs xs as → ReadsAll s.heap ws ys bs → PyData.canLayAll0 xs = true → PyData.canLayAll0 ys = true → compAll xs ys = true →
    A.units + min (PyData.depthAll xs) (PyData.depthAll ys) < cLine → ∀ j (h1 : j < vs.length) (h2 : j < ws.length), pairEq xs ys j = false → (∀ i, i < j → pairEq xs ys i = true) → RcLt A s vs[j] ws[j] (dataLt (xs.getD j .none) (ys.getD j .none))
  | [], _, _, _, _, _, _, _, ra, _, _, _, _, _, j, h1, _, _, _ => by cases ra; exact absurd h1 (Nat.not_lt_zero _)
  | _ :: _, [], _, _, _, _, _, _, _, rb, _, _, _, _, j, _, h2, _, _ => by cases rb; exact absurd h2 (Nat.not_lt_zero _)
  | x :: xs, y :: ys, A, s, _, _, _, _, ra, rb, lx, ly, h, hu, j, h1, h2, hj, hp => by
    obtain ⟨l1, l2⟩ := lay_cons lx
    obtain ⟨m1, m2⟩ := lay_cons ly
    rw [compAll] at h
    cases ra with
    | cons r rs =>
      cases rb with
      | cons r' rs' =>
        cases j with
        | zero =>
          rw [show PyData.eqv x y = false from hj] at h
          simp only [Bool.false_eq_true, if_false] at h
          exact comp_run x y A s _ _ _ _ r r' l1 m1 h (room_head hu)
        | succ j =>
          rw [show PyData.eqv x y = true from hp 0 (Nat.succ_pos _)] at h
          simp only [if_true] at h
          exact compAll_run xs ys A s _ _ _ _ rs rs' l2 m2 h (room_tail hu) j (Nat.lt_of_succ_lt_succ h1) (Nat.lt_of_succ_lt_succ h2) hj fun i hi => hp (i + 1) (Nat.succ_lt_succ hi)
end

/-! ### as sorting compares -/
section
variable {prog : Program} {w : World} {A : Around} {E : Value → Shared → Prop} {s : Shared}
theorem comp_one {f : Bool} {da db : PyData} {a b : Value} {as bs : List Addr} {Q : Bool → Shared → Prop} (ra : Reads s.heap a da as) (rb : Reads s.heap b db bs) (la : da.canLay0 = true) (lb : db.canLay0 = true) (h : comp da db = true)
    (hu : A.units + min da.depth db.depth < cLine) (hq : Q (dataLt da db) s) : wpAny (model prog w) A (oneLt' f a b) Q E s := by
  cases f with
  | false =>
    rw [oneLt'_eq]
    simp only [Bool.false_eq_true, if_false]
    exact wpAny_bind (comp_run da db A s a b as bs ra rb la lb h hu prog w E _ (wpAny_truthy_bool hq))
  | true =>
    cases da with
    | none => exact absurd h (by simp [comp])
    | bool x =>
      cases db with
      | bool y =>
        cases ra
        cases rb
        rw [dataLt_bool] at hq
        exact oneLt_bool hq
      | _ => exact absurd h (by simp [comp])
    | int x =>
      cases db with
      | int y =>
        cases ra
        cases rb
        rw [dataLt_int] at hq
        exact oneLt_int hq
      | _ => exact absurd h (by simp [comp])
    | str x =>
      cases db with
      | str y =>
        cases ra
        cases rb
        rw [dataLt_str] at hq
        exact oneLt_str hq
      | _ => exact absurd h (by simp [comp])
    | list xs => exact absurd h (by simp [comp])
    | tuple xs =>
      cases db with
      | tuple ys =>
        have hal : compAll xs ys = true := by simpa [comp] using h
        have lx : PyData.canLayAll0 xs = true := by simpa [PyData.canLay0] using la
        have ly : PyData.canLayAll0 ys = true := by simpa [PyData.canLay0] using lb
        cases ra with
        | @tuple l o vs n _ as₁ h1 h2 h3 h4 =>
          cases rb with
          | @tuple l' o' vs' n' _ bs₁ k1 k2 k3 k4 =>
            have n1 : vs.size = xs.length := by simpa using ReadsAll.length _ _ _ h4
            have n2 : vs'.size = ys.length := by simpa using ReadsAll.length _ _ _ k4
            rw [dataLt_tuple, ← first_toks xs ys lx hal, ← n1, ← n2] at hq
            rw [oneLt'_eq]
            simp only [if_true]
            refine wpAny_bind (wpAny_cRoomFor (room_here hu) ?_)
            refine wpAny_bind (wpAny_callSpecialIfBound?_slot (T := "tuple") ⟨_, h1, h2⟩ PySem.F.slot_tuple_lt (call_tupLt (e := pairEq xs ys) (r := fun j => dataLt (xs.getD j .none) (ys.getD j .none)) ⟨_, h1, h2, _, h3⟩ ⟨_, k1, k2, _, k3⟩ (fun j j1 j2 => ?_) (fun j j1 j2 hj hp => ?_) ?_))
            · have := eqAt_readsAll xs ys A.in1 s vs.toList vs'.toList _ _ h4 k4 lx ly (room_in hu) j (by simpa using j1) (by simpa using j2)
              simpa using this
            · have := compAll_run xs ys A.in1 s vs.toList vs'.toList _ _ h4 k4 lx ly hal (room_in hu) j (by simpa using j1) (by simpa using j2) hj hp
              simpa using this
            · exact wpAny_truthy_bool hq
      | _ => exact absurd h (by simp [comp])
    | dict _ => exact absurd h (by simp [comp])
theorem lex_run {b fin : Bool} {Q : Bool → Shared → Prop} : ∀ (xs ys : List PyData) (i : Nat) (vs ws : List Value) (as bs : List Addr), ReadsAll s.heap vs xs as → ReadsAll s.heap ws ys bs → PyData.canLayAll0 xs = true → PyData.canLayAll0 ys = true → compAll xs ys = true →
    A.units + min (PyData.depthAll xs) (PyData.depthAll ys) < cLine → fin = decide (xs.length < ys.length) → Q (lexLt itemOrd (keyToksAll xs) (keyToksAll ys)) s → KatLex prog w A b fin Q (vs.zip ws) i s
  | [], [], i, _, _, _, _, ra, rb, _, _, _, _, hf, hq => by
    cases ra
    cases rb
    have e : fin = false := by rw [hf]; rfl
    subst e
    rw [lex_irrefl] at hq
    exact kat_nil hq
  | [], y :: ys, i, _, _, _, _, ra, rb, _, _, _, _, hf, hq => by
    cases ra
    have e : fin = true := by rw [hf]; exact decide_eq_true (Nat.succ_pos _)
    subst e
    rw [toks_all_cons] at hq
    simp only [keyToksAll] at hq
    rw [lex_diff (O := itemOrd) (by simp)] at hq
    rw [List.zip_nil_left]
    exact kat_nil (by simpa [itemLt] using hq)
  | x :: xs, [], i, _, _, _, _, ra, rb, _, _, _, _, hf, hq => by
    cases rb
    have e : fin = false := by rw [hf]; exact decide_eq_false (Nat.not_lt_zero _)
    subst e
    rw [toks_all_cons] at hq
    simp only [keyToksAll] at hq
    rw [lex_diff (O := itemOrd) (by simp)] at hq
    rw [List.zip_nil_right]
    exact kat_nil (by simpa [itemLt] using hq)
  | x :: xs, y :: ys, i, _, _, _, _, ra, rb, lx, ly, h, hu, hf, hq => by
    obtain ⟨l1, l2⟩ := lay_cons lx
    obtain ⟨m1, m2⟩ := lay_cons ly
    rw [compAll] at h
    have hf' : fin = decide (xs.length < ys.length) := by
      rw [hf]
      simp only [List.length_cons, Nat.add_lt_add_iff_right]
    cases ra with
    | cons r rs =>
      cases rb with
      | cons r' rs' =>
        rw [List.zip_cons_cons]
        refine kat_cons (eqAt_reads x y A s _ _ _ _ r r' l1 m1 (room_head hu) prog w _ _ ?_)
        cases hx : PyData.eqv x y with
        | true =>
          rw [hx] at h
          simp only [if_true] at h
          rw [lt_yes l1 hx] at hq
          exact kat_yes (lex_run xs ys (i + 1) _ _ _ _ rs rs' l2 m2 h (room_tail hu) hf' hq)
        | false =>
          rw [hx] at h
          simp only [Bool.false_eq_true, if_false] at h
          rw [lt_no l1 h hx] at hq
          exact kat_no (comp_one r r' l1 m1 h (room_head hu) hq)
end
/-! ### what sorting asks first -/
section
variable {prog : Program} {w : World} {A : Around} {E : Value → Shared → Prop} {s : Shared}
/-- every two are told -/
def AllComp (ds : List PyData) : Prop := ∀ d, d ∈ ds → ∀ d', d' ∈ ds → comp d d' = true
noncomputable def kindC (h : Heap) (ds : List PyData) : PyProof.Rows.KeyKind where
  toKeyOrd := listOrd itemOrd
  keyOf v := open Classical in if q : ∃ d, d ∈ ds ∧ ∃ as, Reads h v d as then some (keyToks q.choose) else none
  dflt := ([] : List (Int ⊕ List Nat))
theorem kindC_some {h : Heap} {ds : List PyData} {v : Value} {d : PyData} {as : List Addr} (l : d.canLay0 = true) (hd : d ∈ ds) (r : Reads h v d as) : (kindC h ds).keyOf v = some (keyToks d) := by
  have q : ∃ d, d ∈ ds ∧ ∃ as, Reads h v d as := ⟨d, hd, as, r⟩
  have e : (kindC h ds).keyOf v = some (keyToks q.choose) := by
    show (open Classical in if q : ∃ d, d ∈ ds ∧ ∃ as, Reads h v d as then some (keyToks q.choose) else none) = _
    rw [dif_pos q]
  obtain ⟨h1, as', h2⟩ := q.choose_spec
  rw [e, ← SeqAt.Reads.unique _ _ _ _ _ l r h2]
theorem kindC_inv {h : Heap} {ds : List PyData} {v : Value} {k : List (Int ⊕ List Nat)} (e : (kindC h ds).keyOf v = some k) : ∃ d as, d ∈ ds ∧ Reads h v d as ∧ k = keyToks d := by
  by_cases q : ∃ d, d ∈ ds ∧ ∃ as, Reads h v d as
  · have e' : (kindC h ds).keyOf v = some (keyToks q.choose) := by
      show (open Classical in if q : ∃ d, d ∈ ds ∧ ∃ as, Reads h v d as then some (keyToks q.choose) else none) = _
      rw [dif_pos q]
    obtain ⟨h1, as', h2⟩ := q.choose_spec
    rw [e'] at e
    exact ⟨_, as', h1, h2, (Option.some.inj e).symm⟩
  · have e' : (kindC h ds).keyOf v = none := by
      show (open Classical in if q : ∃ d, d ∈ ds ∧ ∃ as, Reads h v d as then some (keyToks q.choose) else none) = _
      rw [dif_neg q]
      rfl
    rw [e'] at e
    exact absurd e (by simp)
/-- the first item of a tuple -/
def firstP : PyData → Option PyData
  | .tuple (x :: _) => some x
  | _ => none
theorem first_run {M : Model} {v : Value} {d : PyData} {as : List Addr} (r : Reads s.heap v d as) : ∃ f : Option Value, (∀ (E : Value → Shared → Prop) (Q : Option Value → Shared → Prop), Q f s → wpAny M A (firstOfTuple' v) Q E s) ∧
    match firstP d with
    | none => f = none
    | some x => ∃ u bs, f = some u ∧ Reads s.heap u x bs := by
  have other : ∀ {T : Value}, Looks M s.heap (typeOf v) T → (T != Value.type "tuple") = true → ∀ (E : Value → Shared → Prop) (Q : Option Value → Shared → Prop), Q none s → wpAny M A (firstOfTuple' v) Q E s := by
    intro T hT hn E Q hq
    rw [kas_first_eq]
    refine wpAny_bind (hT.here ?_)
    rw [if_pos hn]
    exact wpAny_pure hq
  have lk := looks_reads (M := M) r
  cases r with
  | none => exact ⟨none, other lk (by simp [dataType]), rfl⟩
  | bool _ => exact ⟨none, other lk (by simp [dataType]), rfl⟩
  | int _ _ => exact ⟨none, other lk (by simp [dataType]), rfl⟩
  | str _ _ => exact ⟨none, other lk (by simp [dataType]), rfl⟩
  | list h1 h2 h3 h4 => exact ⟨none, other lk (by simp [dataType]), rfl⟩
  | dict h1 h2 h3 h4 h5 => exact ⟨none, other lk (by simp [dataType]), rfl⟩
  | @tuple a o vs n ds as h1 h2 h3 h4 =>
    refine ⟨vs[0]?, fun E Q hq => ?_, ?_⟩
    · rw [kas_first_eq]
      refine wpAny_bind (lk.here ?_)
      rw [if_neg (by simp [dataType])]
      exact wpAny_bind (listItems_at h1 h3 (wpAny_pure hq))
    · cases ds with
      | nil =>
        have e : vs.toList = [] := by
          generalize vs.toList = l at h4
          cases h4; rfl
        have e2 : vs = #[] := by simpa using e
        subst e2
        rfl
      | cons x xs =>
        generalize e : vs.toList = l at h4
        cases h4 with
        | @cons u ul _ _ as1 as2 r1 r2 => exact ⟨u, as1, by rw [← Array.getElem?_toList, e]; rfl, r1⟩
theorem mapM_run {α β : Type} {M : Model} {f : α → Sem β} : ∀ (l : List α) (rs : List β) {Q : List β → Shared → Prop}, EachIs (fun v r => ∀ (E : Value → Shared → Prop) (Q' : β → Shared → Prop), Q' r s → wpAny M A (f v) Q' E s) l rs → Q rs s → wpAny M A (l.mapM f) Q E s
  | [], _, _, .nil, h => by rw [List.mapM_nil]; exact wpAny_pure h
  | x :: l, _, Q, .cons (b := r) hx t, h => by
    rename_i rs
    rw [List.mapM_cons]
    exact wpAny_bind (hx _ _ (wpAny_bind (mapM_run l rs (Q := fun bs s' => wpAny M A (pure (r :: bs)) Q E s') t (wpAny_pure h))))
theorem each_firsts {M : Model} : ∀ {vs : List Value} {ds : List PyData}, EachIs (fun v d => ∃ as, Reads s.heap v d as) vs ds → ∃ fs : List (Option Value), EachIs (fun v r => ∀ (E : Value → Shared → Prop) (Q' : Option Value → Shared → Prop), Q' r s → wpAny M A (firstOfTuple' v) Q' E s) vs fs ∧
    EachIs (fun f d => match firstP d with
      | none => f = none
      | some x => ∃ u bs, f = some u ∧ Reads s.heap u x bs) fs ds
  | _, _, .nil => ⟨[], .nil, .nil⟩
  | _, _, .cons ⟨as, r⟩ t => by
    obtain ⟨f, h1, h2⟩ := first_run (M := M) (A := A) r
    obtain ⟨fs, g1, g2⟩ := each_firsts (M := M) t
    exact ⟨f :: fs, .cons h1 g1, .cons h2 g2⟩
/-- what the first items tell: all tuples that have one, of one kind; else the first one; else all of one kind -/
def allFirst (ds : List PyData) : Bool := ds.all fun d => (firstP d).isSome
def oneTy (ts : Array Value) : Option Value := match ts[0]? with
  | some t => if ts.all (· == t) then some t else none
  | none => none
theorem oneTy_run {M : Model} {vs : List Value} {ds : List PyData} (e : EachIs (fun v d => ∃ as, Reads s.heap v d as) vs ds) {Q : Option Value → Shared → Prop} (h : Q (oneTy (ds.map dataType).toArray) s) : wpAny M A (oneTypeOnly' vs.toArray) Q E s := by
  rw [oneTypeOnly'_eq, List.mapM_toArray, map_eq_pure_bind]
  have e2 : EachIs (fun v r => ∀ (E : Value → Shared → Prop) (Q' : Value → Shared → Prop), Q' r s → wpAny M A (typeOf v) Q' E s) vs (ds.map dataType) := by
    clear h
    induction e with
    | nil => exact .nil
    | cons h t ih =>
      obtain ⟨as, r⟩ := h
      exact .cons (fun E Q hq => (looks_reads r).here hq) ih
  refine wpAny_bind (wpAny_bind (mapM_run _ _ e2 (wpAny_pure ?_)))
  unfold oneTy at h
  cases q : (ds.map dataType).toArray[0]? with
  | none => rw [q] at h; simp only at h ⊢; exact wpAny_pure h
  | some t => rw [q] at h; simp only at h ⊢; exact wpAny_pure h
theorem firsts_all : ∀ {fs : List (Option Value)} {ds : List PyData}, EachIs (fun f d => match firstP d with
      | none => f = none
      | some x => ∃ u bs, f = some u ∧ Reads s.heap u x bs) fs ds → fs.toArray.all (·.isSome) = allFirst ds
  | _, _, .nil => by simp [allFirst]
  | f :: fs, d :: ds, .cons h t => by
    have ih := firsts_all t
    simp only [List.all_toArray, allFirst, List.all_cons] at ih ⊢
    rw [ih]
    congr 1
    cases q : firstP d with
    | none => rw [q] at h; simp only at h; rw [h]; rfl
    | some x => rw [q] at h; simp only at h; obtain ⟨u, bs, rfl, _⟩ := h; rfl
theorem firsts_map : ∀ {fs : List (Option Value)} {ds : List PyData}, EachIs (fun f d => match firstP d with
      | none => f = none
      | some x => ∃ u bs, f = some u ∧ Reads s.heap u x bs) fs ds → allFirst ds = true → ∃ us, fs.filterMap id = us ∧ EachIs (fun v d => ∃ as, Reads s.heap v d as) us (ds.filterMap firstP)
  | _, _, .nil, _ => ⟨[], rfl, .nil⟩
  | f :: fs, d :: ds, .cons h t, ha => by
    simp only [allFirst, List.all_cons, Bool.and_eq_true] at ha
    obtain ⟨us, e1, e2⟩ := firsts_map t (show allFirst ds = true from ha.2)
    cases q : firstP d with
    | none => rw [q] at ha; simp at ha
    | some x =>
      rw [q] at h; simp only at h
      obtain ⟨u, bs, rfl, r⟩ := h
      refine ⟨u :: us, by simp [e1], ?_⟩
      rw [List.filterMap_cons, q]
      exact .cons ⟨bs, r⟩ e2
/-- the values can be sorted -/
theorem sortsC {vs : List Value} {ds : List PyData} (e : EachIs (fun v d => ∃ as, Reads s.heap v d as) vs ds) (hal : AllComp ds) (hl : ∀ d, d ∈ ds → d.canLay0 = true) (hu : ∀ d, d ∈ ds → A.units + d.depth < cLine) : SortsAt prog w A s (kindC s.heap ds) vs := by
  have room : ∀ {d d' : PyData}, d ∈ ds → A.units + min d.depth d'.depth < cLine := fun {d d'} hd => Nat.lt_of_le_of_lt (Nat.add_le_add_left (Nat.min_le_left _ _) _) (hu d hd)
  have one : ∀ (f : Bool) (E : Value → Shared → Prop) (x y : Value) (a b : List (Int ⊕ List Nat)) {Q : Bool → Shared → Prop}, (kindC s.heap ds).keyOf x = some a → (kindC s.heap ds).keyOf y = some b → Q (lexLt itemOrd a b) s → wpAny (model prog w) A (oneLt' f x y) Q E s := by
    intro f E x y a b Q ha hb hq
    obtain ⟨d, as, hd, ra, rfl⟩ := kindC_inv ha
    obtain ⟨d', as', hd', rb, rfl⟩ := kindC_inv hb
    exact comp_one ra rb (hl d hd) (hl d' hd') (hal d hd d' hd') (room hd) hq
  have gen : PyProof.Rows.H.LtAt prog w A s (kindC s.heap ds) general' := fun E x y a b Q ha hb hq => one false E x y a b ha hb hq
  have onet : PyProof.Rows.H.LtAt prog w A s (kindC s.heap ds) oneType' := fun E x y a b Q ha hb hq => by
    rw [keyLt'_oneType]
    exact one true E x y a b ha hb hq
  refine ⟨fun v hv => ?_, ?_⟩
  · obtain ⟨d, hd, as, r⟩ := e.left v hv
    exact ⟨_, kindC_some (hl d hd) hd r⟩
  · obtain ⟨fs, f1, f2⟩ := each_firsts (M := model prog w) (A := A) e
    have hall := firsts_all f2
    cases ca : allFirst ds with
    | true =>
      obtain ⟨us, u1, u2⟩ := firsts_map f2 ca
      refine ⟨tuples' ((oneTy ((ds.filterMap firstP).map dataType).toArray).any (· != .type "tuple")), ?_, fun _ E Q hq => ?_⟩
      · intro E x y a b Q ha hb hq
        obtain ⟨d, as, hd, ra, rfl⟩ := kindC_inv ha
        obtain ⟨d', as', hd', rb, rfl⟩ := kindC_inv hb
        have hdd := hal d hd d' hd'
        have hroom := room (d' := d') hd
        have hld := hl d hd
        have hld' := hl d' hd'
        have t1 : (firstP d).isSome = true := List.all_eq_true.mp ca d hd
        have t2 : (firstP d').isSome = true := List.all_eq_true.mp ca d' hd'
        obtain ⟨xs, rfl⟩ : ∃ xs, d = .tuple xs := by cases d <;> simp [firstP] at t1; exact ⟨_, rfl⟩
        obtain ⟨ys, rfl⟩ : ∃ xs, d' = .tuple xs := by cases d' <;> simp [firstP] at t2; exact ⟨_, rfl⟩
        have hq' : Q (dataLt (.tuple xs) (.tuple ys)) s := hq
        rw [dataLt_tuple] at hq'
        cases ra with
        | @tuple l o vs n _ _ h1 h2 h3 h4 =>
          cases rb with
          | @tuple l' o' vs' n' _ _ k1 k2 k3 k4 =>
            have n1 : vs.size = xs.length := by simpa using SeqAt.ReadsAll.length _ _ _ h4
            have n2 : vs'.size = ys.length := by simpa using SeqAt.ReadsAll.length _ _ _ k4
            exact kat_lt h1 h3 k1 k3 (lex_run xs ys 0 _ _ _ _ h4 k4 (by simpa [PyData.canLay0] using hld) (by simpa [PyData.canLay0] using hld') (by simpa [comp] using hdd) (by have q := SeqAt.room_in hroom; omega) (by rw [n1, n2]) hq')
      · rw [kat_kind_eq, List.mapM_toArray, map_eq_pure_bind]
        refine wpAny_bind (wpAny_bind (mapM_run _ _ f1 (wpAny_pure ?_)))
        rw [if_pos (by rw [hall]; exact ca)]
        refine wpAny_bind (wpAny_rule ?_)
        have hfm : fs.toArray.filterMap id = us.toArray := by simp [u1]
        rw [hfm]
        exact wpAny_bind (oneTy_run u2 (wpAny_pure hq))
    | false =>
      by_cases c0 : (fs.toArray[0]?.bind id).isSome = true
      · refine ⟨general', gen, fun _ E Q hq => ?_⟩
        rw [kat_kind_eq, List.mapM_toArray, map_eq_pure_bind]
        refine wpAny_bind (wpAny_bind (mapM_run _ _ f1 (wpAny_pure ?_)))
        rw [if_neg (by rw [hall, ca]; simp), if_pos c0]
        exact wpAny_pure hq
      · refine ⟨if (oneTy (ds.map dataType).toArray).isSome = true then oneType' else general', ?_, fun _ E Q hq => ?_⟩
        · split
          · exact onet
          · exact gen
        · rw [kat_kind_eq, List.mapM_toArray, map_eq_pure_bind]
          refine wpAny_bind (wpAny_bind (mapM_run _ _ f1 (wpAny_pure ?_)))
          rw [if_neg (by rw [hall, ca]; simp), if_neg c0]
          exact wpAny_bind (oneTy_run e (wpAny_pure hq))
/-- xs.sort(): the items are data that can be compared -/
theorem sortC {β : Type} {vs : List Value} {bs : List β} {enc : β → PyData} {R : Value → β → Prop} {a : Addr} {n : Nat} {Q : Value → Shared → Prop} (ho : s.heap.get? a = some (seqObj "list" vs.toArray n)) (e : EachIs R vs bs) (er : EachIs (fun v b => ∃ as, Reads (sortingHeap s.heap a vs) v (enc b) as) vs bs)
    (hal : AllComp (bs.map enc)) (hl : ∀ b, b ∈ bs → (enc b).canLay0 = true) (hL : bs.length ≤ sizeLine)
    (hu : ∀ b, b ∈ bs → A.units + 1 + (enc b).depth < cLine) (h : ∀ out, out.length = bs.length → EachIs R out (bs.mergeSort (dataLe false enc)) → Q .none { s with heap := sortedHeap s.heap a vs (List.toArray out) }) :
    wpAny (model prog w) A (call (.builtin "list.sort") [.ref a]) Q E s := by
  have hl' : ∀ d, d ∈ bs.map enc → d.canLay0 = true := by
    intro d hd
    obtain ⟨b, hb, rfl⟩ := List.mem_map.mp hd
    exact hl b hb
  have em := each_map (R := fun v d => ∃ as, Reads (sortingHeap s.heap a vs) v d as) enc er
  refine wpAny_call_entry PyProof.Rows.slot_list_sort ⟨_, ho, rfl⟩ PyProof.Rows.entry_list_sort (list_sort_vals (κ := kindC (sortingHeap s.heap a vs) (bs.map enc)) ho (sortsC (s := { s with heap := sortingHeap s.heap a vs }) em hal hl' (bound_map hu)) (by rw [e.length]; exact hL) ⟨.none, rfl, ?_⟩) (PyProof.Rows.args_list_sort _)
  refine h _ (by rw [sortVals_length false rfl]; exact e.length) ?_
  exact sortVals_each (κ := kindC (sortingHeap s.heap a vs) (bs.map enc)) (fun b => keyToks (enc b)) e (each_of_map enc ((each_mem em).mono fun v d q => by
    obtain ⟨⟨as, r⟩, hd⟩ := q
    exact kindC_some (hl' d hd) hd r))
end
end Mn
set_option Elab.async false
set_option linter.all false
set_option maxRecDepth 100000
/-! Mn1: plain data, a store, denotations. -/
namespace Mn
open PySem

/-- plain data; seq: a list that nobody writes; loc: a place of the store; fn: a def of the text, by its number -/
inductive D where
  | non | bl (b : Bool) | int (i : Int) | str (s : Str) | tup (xs : List D) | seq (xs : List D) | loc (l : Nat) | fn (n : Nat)
mutual
def D.dec : (a b : D) → Decidable (a = b)
  | .non, .non => .isTrue rfl
  | .bl a, .bl b => decidable_of_iff (a = b) ⟨fun h => h ▸ rfl, fun h => by injection h⟩
  | .int a, .int b => decidable_of_iff (a = b) ⟨fun h => h ▸ rfl, fun h => by injection h⟩
  | .str a, .str b => decidable_of_iff (a = b) ⟨fun h => h ▸ rfl, fun h => by injection h⟩
  | .tup a, .tup b => match D.decs a b with
    | .isTrue h => .isTrue (h ▸ rfl)
    | .isFalse h => .isFalse fun q => h (by injection q)
  | .seq a, .seq b => match D.decs a b with
    | .isTrue h => .isTrue (h ▸ rfl)
    | .isFalse h => .isFalse fun q => h (by injection q)
  | .loc a, .loc b => decidable_of_iff (a = b) ⟨fun h => h ▸ rfl, fun h => by injection h⟩
  | .fn a, .fn b => decidable_of_iff (a = b) ⟨fun h => h ▸ rfl, fun h => by injection h⟩
  | .non, .bl _ | .non, .int _ | .non, .str _ | .non, .tup _ | .non, .seq _ | .non, .loc _ | .non, .fn _ => .isFalse fun h => by cases h
  | .bl _, .non | .bl _, .int _ | .bl _, .str _ | .bl _, .tup _ | .bl _, .seq _ | .bl _, .loc _ | .bl _, .fn _ => .isFalse fun h => by cases h
  | .int _, .non | .int _, .bl _ | .int _, .str _ | .int _, .tup _ | .int _, .seq _ | .int _, .loc _ | .int _, .fn _ => .isFalse fun h => by cases h
  | .str _, .non | .str _, .bl _ | .str _, .int _ | .str _, .tup _ | .str _, .seq _ | .str _, .loc _ | .str _, .fn _ => .isFalse fun h => by cases h
  | .tup _, .non | .tup _, .bl _ | .tup _, .int _ | .tup _, .str _ | .tup _, .seq _ | .tup _, .loc _ | .tup _, .fn _ => .isFalse fun h => by cases h
  | .seq _, .non | .seq _, .bl _ | .seq _, .int _ | .seq _, .str _ | .seq _, .tup _ | .seq _, .loc _ | .seq _, .fn _ => .isFalse fun h => by cases h
  | .loc _, .non | .loc _, .bl _ | .loc _, .int _ | .loc _, .str _ | .loc _, .tup _ | .loc _, .seq _ | .loc _, .fn _ => .isFalse fun h => by cases h
  | .fn _, .non | .fn _, .bl _ | .fn _, .int _ | .fn _, .str _ | .fn _, .tup _ | .fn _, .seq _ | .fn _, .loc _ => .isFalse fun h => by cases h
def D.decs : (a b : List D) → Decidable (a = b)
  | [], [] => .isTrue rfl
  | x :: xs, y :: ys => match D.dec x y, D.decs xs ys with
    | .isTrue h, .isTrue g => .isTrue (h ▸ g ▸ rfl)
    | .isFalse h, _ => .isFalse fun q => h (by injection q)
    | _, .isFalse h => .isFalse fun q => h (by injection q)
  | [], _ :: _ | _ :: _, [] => .isFalse fun h => by cases h
end
instance : DecidableEq D := D.dec

/-- what stands at a place: a list, a dict (locked while it is gone through), an instance -/
inductive O where
  | lst (xs : List D) | dict (kvs : List (D × D)) (lk : Bool) | inst (c : Nat) (fs : List (Nat × D))
  deriving DecidableEq
abbrev Mem := List O
def lkO : O → Bool
  | .dict _ lk => lk
  | _ => false

mutual
/-- no place from n on -/
def closed (n : Nat) : D → Bool
  | .loc l => decide (l < n)
  | .tup xs => closeds n xs
  | .seq xs => closeds n xs
  | _ => true
def closeds (n : Nat) : List D → Bool
  | [] => true
  | x :: xs => closed n x && closeds n xs
end
theorem closeds_all (n : Nat) (xs : List D) : closeds n xs = xs.all (closed n) := by
  induction xs with
  | nil => rfl
  | cons x xs ih => simp [closeds, ih]

/-- an expression's end: a value; an exception of the class c with its one field; nothing told -/
inductive Out (α : Type) where
  | ok (a : α) (m : Mem) | exc (c : Nat) (p : Option D) (m : Mem) | bad
def Out.bind {α β : Type} (r : Out α) (k : α → Mem → Out β) : Out β := match r with
  | .ok a m => k a m
  | .exc c p m => .exc c p m
  | .bad => .bad
@[simp] theorem Out.bind_ok {α β : Type} (a : α) (m : Mem) (k : α → Mem → Out β) : Out.bind (.ok a m) k = k a m := rfl
@[simp] theorem Out.bind_exc {α β : Type} (c : Nat) (p : Option D) (m : Mem) (k : α → Mem → Out β) : Out.bind (.exc c p m) k = .exc c p m := rfl
@[simp] theorem Out.bind_bad {α β : Type} (k : α → Mem → Out β) : Out.bind .bad k = .bad := rfl
def Out.ofO {α : Type} : Option (α × Mem) → Out α
  | some (a, m) => .ok a m
  | none => .bad
@[simp] theorem Out.ofO_some {α : Type} (a : α) (m : Mem) : Out.ofO (some (a, m)) = .ok a m := rfl
@[simp] theorem Out.ofO_none {α : Type} : Out.ofO (none : Option (α × Mem)) = .bad := rfl

abbrev Env := List (Option D)
abbrev FE := Nat → List D → Mem → Out D
abbrev Den := FE → Env → Mem → Out D
abbrev DenT := FE → Env → Mem → Out Bool
abbrev DenA := FE → Env → Mem → Out (List D)

/-- no place from n on in what stands at a place -/
def closedO (n : Nat) : O → Bool
  | .lst xs => closeds n xs
  | .dict kvs _ => kvs.all fun q => closed n q.1 && closed n q.2
  | .inst _ fs => fs.all fun q => closed n q.2
/-- the places from n on may go -/
def cutOk (m m' : Mem) : Bool := decide (m'.take m.length = m) || (decide (m.length ≤ m'.length) && (m'.take m.length).all (closedO m.length))
/-- what was made on the way is forgotten, if nothing leads to it -/
def gcO (m : Mem) : Out D → Out D
  | .ok v m' => if cutOk m m' = true ∧ closed m.length v = true then .ok v (m'.take m.length) else .ok v m'
  | .exc c p m' => if cutOk m m' = true ∧ (p.all (closed m.length)) = true then .exc c p (m'.take m.length) else .exc c p m'
  | .bad => .bad
def gcB (m : Mem) : Out Bool → Out Bool
  | .ok v m' => if cutOk m m' = true then .ok v (m'.take m.length) else .ok v m'
  | .exc c p m' => if cutOk m m' = true ∧ (p.all (closed m.length)) = true then .exc c p (m'.take m.length) else .exc c p m'
  | .bad => .bad

/-- a statement's end -/
inductive OutS where
  | next (ρ : Env) (m : Mem) | ret (v : D) (m : Mem) | brk (ρ : Env) (m : Mem) | cont (ρ : Env) (m : Mem)
  | exc (c : Nat) (p : Option D) (ρ : Env) (m : Mem) | bad
abbrev DenS := FE → Env → Mem → OutS

/-! ### values -/
mutual
/-- == -/
def eqv : D → D → Bool
  | .non, .non => true
  | .bl a, .bl b => a == b
  | .bl a, .int b => (if a then 1 else 0) == b
  | .int a, .bl b => a == (if b then 1 else 0)
  | .int a, .int b => a == b
  | .str a, .str b => a == b
  | .tup a, .tup b => eqvs a b
  | _, _ => false
def eqvs : List D → List D → Bool
  | [], [] => true
  | x :: xs, y :: ys => eqv x y && eqvs xs ys
  | _, _ => false
end
mutual
/-- no place within, not deeper than n -/
def pureD : Nat → D → Bool
  | _, .non => true
  | _, .bl _ => true
  | _, .int _ => true
  | _, .str s => PyData.strOk s
  | 0, .tup _ => false
  | n + 1, .tup xs => pureDs n xs
  | _, .seq _ => false
  | _, .loc _ => false
  | _, .fn _ => false
def pureDs : Nat → List D → Bool
  | _, [] => true
  | n, x :: xs => pureD n x && pureDs n xs
end
/-- the plain tree that a value stands for -/
def rd (m : Mem) : Nat → D → Option PyData
  | _, .non => some .none
  | _, .bl b => some (.bool b)
  | _, .int i => some (.int i)
  | _, .str s => if PyData.strOk s = true then some (.str s) else none
  | 0, .tup _ => none
  | n + 1, .tup xs => (xs.mapM (rd m n)).map .tuple
  | 0, .seq _ => none
  | n + 1, .seq xs => (xs.mapM (rd m n)).map .list
  | 0, .loc _ => none
  | n + 1, .loc l => match m[l]? with
    | some (.lst xs) => (xs.mapM (rd m n)).map .list
    | _ => none
  | _, .fn _ => none
mutual
def toPy : D → PyData
  | .non => .none
  | .bl b => .bool b
  | .int i => .int i
  | .str s => .str s
  | .tup xs => .tuple (toPys xs)
  | .seq xs => .list (toPys xs)
  | .loc _ => .none
  | .fn _ => .none
def toPys : List D → List PyData
  | [] => []
  | x :: xs => toPy x :: toPys xs
end
theorem toPys_map (xs : List D) : toPys xs = xs.map toPy := by
  induction xs with
  | nil => rfl
  | cons x xs ih => simp [toPys, ih]
/-- a == b -/
def eqM (m : Mem) (a b : D) : Option Bool :=
  if pureD 12 a = true ∧ pureD 12 b = true then some (eqv a b) else
    match rd m 12 a, rd m 12 b with
    | some x, some y => some (PyData.eqv x y)
    | _, _ => none
/-- a < b of tuples -/
def ltT (a b : D) : Option Bool :=
  if pureD 12 a = true ∧ pureD 12 b = true ∧ comp (toPy a) (toPy b) = true then some (PySem.W.dataLt (toPy a) (toPy b)) else none
/-- the items of a list or tuple -/
def itemsM (m : Mem) : D → Option (List D)
  | .tup xs => some xs
  | .seq xs => some xs
  | .loc l => match m[l]? with
    | some (.lst xs) => some xs
    | _ => none
  | _ => none
abbrev Op2 := D → D → Mem → Option (D × Mem)
def opAdd : Op2
  | .int i, .int j, m => some (.int (i + j), m)
  | .str s, .str t, m => if s.length + t.length ≤ sizeLine then some (.str (s ++ t), m) else none
  | .tup xs, .tup ys, m => if xs.length + ys.length ≤ sizeLine then some (.tup (xs ++ ys), m) else none
  | .loc a, .loc b, m => match m[a]?, m[b]? with
    | some (.lst xs), some (.lst ys) => if xs.length + ys.length ≤ sizeLine then some (.loc m.length, m ++ [.lst (xs ++ ys)]) else none
    | _, _ => none
  | _, _, _ => none
def opSub : Op2
  | .int i, .int j, m => some (.int (i - j), m)
  | _, _, _ => none
def opMul : Op2
  | .int i, .int j, m => if ((-(2 ^ 64) < i ∧ i < 2 ^ 64) ∨ (-(2 ^ 64) < j ∧ j < 2 ^ 64)) then some (.int (i * j), m) else none
  | .loc a, .int k, m => match m[a]? with
    | some (.lst xs) => if -(2 ^ 63) ≤ k ∧ k < 2 ^ 63 ∧ xs.length * k.toNat ≤ sizeLine then some (.loc m.length, m ++ [.lst (List.replicate k.toNat xs).flatten]) else none
    | _ => none
  | _, _, _ => none
def opFdiv : Op2
  | .int i, .int j, m => if j ≠ 0 ∧ j.natAbs < 1073741824 then some (.int (i.fdiv j), m) else none
  | _, _, _ => none
def opMod : Op2
  | .int i, .int j, m => if j ≠ 0 then some (.int (i.fmod j), m) else none
  | _, _, _ => none
def opPow : Op2
  | .int i, .int j, m => if 0 ≤ j ∧ j ≤ 1000000 ∧ i.natAbs < 2 ^ 64 then some (.int (i ^ j.toNat), m) else none
  | _, _, _ => none
def opEq : Op2 := fun a b m => (eqM m a b).map fun k => (.bl k, m)
def opNe : Op2 := fun a b m => (eqM m a b).map fun k => (.bl (!k), m)
def opLt : Op2
  | .int i, .int j, m => some (.bl (decide (i < j)), m)
  | .str s, .str t, m => some (.bl (decide (s.cps.toList < t.cps.toList)), m)
  | .tup xs, .tup ys, m => (ltT (.tup xs) (.tup ys)).map fun k => (.bl k, m)
  | _, _, _ => none
def opLe : Op2
  | .int i, .int j, m => some (.bl (decide (i ≤ j)), m)
  | _, _, _ => none
def opGt : Op2
  | .int i, .int j, m => some (.bl (decide (j < i)), m)
  | _, _, _ => none
def opGe : Op2
  | .int i, .int j, m => some (.bl (decide (j ≤ i)), m)
  | _, _, _ => none
def opIs : Op2
  | a, .non, m => some (.bl (decide (a = .non)), m)
  | .bl a, .bl b, m => some (.bl (decide (a = b)), m)
  | _, _, _ => none
def opIsNot : Op2
  | a, .non, m => some (.bl (!decide (a = .non)), m)
  | .bl a, .bl b, m => some (.bl (!decide (a = b)), m)
  | _, _, _ => none
mutual
/-- a key as the library tells keys that are tuples -/
def keyN : D → Option NestedKey
  | .non => some .none
  | .int i => some (.num i)
  | .str s => some (.text s)
  | .tup xs => (keyNs xs).map .tup
  | _ => none
def keyNs : List D → Option (List NestedKey)
  | [] => some []
  | x :: xs => match keyN x, keyNs xs with
    | some k, some ks => some (k :: ks)
    | _, _ => none
end
/-- a key that is an int or a text -/
def keyM : D → Option L2.Key
  | .int i => some (.inl i)
  | .str s => some (.inr s)
  | _ => none
/-- a key that is a tuple -/
def keyT : D → Option NestedKey
  | .tup xs => match keyN (.tup xs) with
    | some k => if k.depth ≤ 8 then some k else none
    | none => none
  | _ => none
/-- the key is of the dict's kind -/
def kindOk (kvs : List (D × D)) (k : D) : Bool := ((keyM k).isSome && kvs.all fun p => (keyM p.1).isSome) || ((keyT k).isSome && kvs.all fun p => (keyT p.1).isSome)
/-- the value at a key -/
def dGet (kvs : List (D × D)) (k : D) : Option D := (kvs.find? fun p => decide (p.1 = k)).map (·.2)
def dPut (kvs : List (D × D)) (k v : D) : List (D × D) := if (dGet kvs k).isSome then kvs.map (fun p => if p.1 = k then (p.1, v) else p) else kvs ++ [(k, v)]
/-- x in c -/
def inM (m : Mem) (a c : D) : Option Bool :=
  match c with
  | .str t => match a with
    | .str s => match s.cps.toList with
      | [x] => some (decide (x ∈ t.cps.toList))
      | _ => none
    | _ => none
  | .loc l => match m[l]? with
    | some (.dict kvs _) => if kindOk kvs a = true then some (dGet kvs a).isSome else none
    | some (.lst xs) => if pureD 12 a = true ∧ pureDs 11 xs = true then some (xs.any fun z => eqv z a) else
      match rd m 12 a, xs.mapM (rd m 11) with
      | some x, some ys => some (ys.any fun z => PyData.eqv z x)
      | _, _ => none
    | _ => none
  | .tup xs => if pureD 12 a = true ∧ pureDs 11 xs = true then some (xs.any fun z => eqv z a) else none
  | _ => none
def opIn : Op2 := fun a b m => (inM m a b).map fun k => (.bl k, m)
def opNotIn : Op2 := fun a b m => (inM m a b).map fun k => (.bl (!k), m)
end Mn
set_option Elab.async false
set_option linter.all false
set_option maxRecDepth 100000
set_option maxHeartbeats 1000000
/-! Mn2: what stands for plain data over the abstract heap; extensions; ends. -/
namespace Mn
open PySem L2

/-- a place: its address, whether it is locked -/
abbrev Pl := Addr × Bool
/-- the text's part that is the same throughout: defs and own classes by number -/
structure Gx where
  P : Program
  w : World
  K : PySem.W.Frag
  fa : Nat → Option Addr
  ca : Nat → Option Addr
  xf : Nat → Str
/-- a list that nobody writes -/
def FzL (K : PySem.W.Frag) (H : Hp) (a : Addr) (xs : List V) : Prop :=
  (∃ o, H a = some (.frz o (.lst xs))) ∨
    ∃ (o : Obj) (its : Array Value) (n : Nat), K.lookup a = some o ∧ o.cls = .type "list" ∧ o.dict = none ∧ o.data = .seq its n ∧ its.size ≤ sizeLine ∧ Vals xs its.toList
theorem FzL.sq {K : PySem.W.Frag} {H : Hp} {a : Addr} {xs : List V} (h : FzL K H a xs) : SqL K H a xs := by
  rcases h with ⟨o, h⟩ | h
  · exact .inl (.inr ⟨o, h⟩)
  · exact .inr h

/-- a tuple that has no attributes -/
def FzT (K : PySem.W.Frag) (H : Hp) (a : Addr) (xs : List V) : Prop :=
  (∃ o, H a = some (.frz o (.tup xs)) ∧ o.dict = none) ∨
    ∃ (o : Obj) (its : Array Value) (n : Nat), K.lookup a = some o ∧ o.cls = .type "tuple" ∧ o.dict = none ∧ o.data = .seq its n ∧ its.size ≤ sizeLine ∧ Vals xs its.toList
theorem FzT.sq {K : PySem.W.Frag} {H : Hp} {a : Addr} {xs : List V} (h : FzT K H a xs) : SqT K H a xs := by
  rcases h with ⟨o, h, _⟩ | ⟨o, its, n, h1, h2, _, h3, h4, h5⟩
  · exact .inl (.inr ⟨o, h⟩)
  · exact .inr ⟨o, its, n, h1, h2, h3, h4, h5⟩
mutual
/-- v stands for the datum -/
def RV (G : Gx) (H : Hp) (β : List Pl) : V → D → Prop
  | v, .non => v = .non
  | v, .bl b => v = .bl b
  | v, .int i => v = .int i
  | v, .str s => v = .str s
  | v, .tup ds => ∃ a xs, v = .ref a ∧ FzT G.K H a xs ∧ RVs G H β xs ds
  | v, .seq ds => ∃ a xs, v = .ref a ∧ FzL G.K H a xs ∧ RVs G H β xs ds
  | v, .loc l => ∃ a f, v = .ref a ∧ β[l]? = some (a, f)
  | v, .fn n => ∃ a, v = .ref a ∧ G.fa n = some a
def RVs (G : Gx) (H : Hp) (β : List Pl) : List V → List D → Prop
  | xs, [] => xs = []
  | xs, d :: ds => ∃ x r, xs = x :: r ∧ RV G H β x d ∧ RVs G H β r ds
end
/-- every tuple is a tuple still, every other thing that no place holds -/
def TL (K : PySem.W.Frag) (H H' : Hp) : Prop := (∀ b xs, FzT K H b xs → FzT K H' b xs) ∧ ∀ b xs, FzL K H b xs → FzL K H' b xs
/-- a longer list of places -/
def BL (β β' : List Pl) : Prop := ∃ more, β' = β ++ more
theorem BL.refl (β : List Pl) : BL β β := ⟨[], by simp⟩
theorem BL.trans {a b c : List Pl} (h : BL a b) (g : BL b c) : BL a c := by
  obtain ⟨x, rfl⟩ := h
  obtain ⟨y, rfl⟩ := g
  exact ⟨x ++ y, by simp⟩
theorem BL.get {β β' : List Pl} (h : BL β β') {l : Nat} {a : Pl} (e : β[l]? = some a) : β'[l]? = some a := by
  obtain ⟨x, rfl⟩ := h
  rw [List.getElem?_append_left (List.getElem?_eq_some_iff.mp e).1]
  exact e
theorem TL.refl (K : PySem.W.Frag) (H : Hp) : TL K H H := ⟨fun _ _ h => h, fun _ _ h => h⟩
theorem TL.trans {K : PySem.W.Frag} {a b c : Hp} (h : TL K a b) (g : TL K b c) : TL K a c := ⟨fun _ _ x => g.1 _ _ (h.1 _ _ x), fun _ _ x => g.2 _ _ (h.2 _ _ x)⟩
mutual
theorem RV.mono {G : Gx} {H H' : Hp} {β β' : List Pl} (t : TL G.K H H') (b : BL β β') : ∀ (d : D) (v : V), RV G H β v d → RV G H' β' v d
  | .non, v, h => by simpa [RV] using h
  | .bl _, v, h => by simpa [RV] using h
  | .int _, v, h => by simpa [RV] using h
  | .str _, v, h => by simpa [RV] using h
  | .tup ds, v, h => by
    simp only [RV] at h ⊢
    obtain ⟨a, xs, e, hs, hr⟩ := h
    exact ⟨a, xs, e, t.1 _ _ hs, RVs.mono t b ds xs hr⟩
  | .seq ds, v, h => by
    simp only [RV] at h ⊢
    obtain ⟨a, xs, e, hs, hr⟩ := h
    exact ⟨a, xs, e, t.2 _ _ hs, RVs.mono t b ds xs hr⟩
  | .loc l, v, h => by
    simp only [RV] at h ⊢
    obtain ⟨a, f, e, hl⟩ := h
    exact ⟨a, f, e, b.get hl⟩
  | .fn n, v, h => by simpa [RV] using h
theorem RVs.mono {G : Gx} {H H' : Hp} {β β' : List Pl} (t : TL G.K H H') (b : BL β β') : ∀ (ds : List D) (vs : List V), RVs G H β vs ds → RVs G H' β' vs ds
  | [], vs, h => by simpa [RVs] using h
  | d :: ds, vs, h => by
    simp only [RVs] at h ⊢
    obtain ⟨x, r, e, h1, h2⟩ := h
    exact ⟨x, r, e, RV.mono t b d x h1, RVs.mono t b ds r h2⟩
end
mutual
/-- places from n on are not met -/
theorem RV.cut {G : Gx} {H : Hp} {β more : List Pl} : ∀ (d : D) (v : V), closed β.length d = true → RV G H (β ++ more) v d → RV G H β v d
  | .non, v, _, h => by simpa [RV] using h
  | .bl _, v, _, h => by simpa [RV] using h
  | .int _, v, _, h => by simpa [RV] using h
  | .str _, v, _, h => by simpa [RV] using h
  | .tup ds, v, c, h => by
    simp only [RV] at h ⊢
    obtain ⟨a, xs, e, hs, hr⟩ := h
    exact ⟨a, xs, e, hs, RVs.cut ds xs (by simpa [closed] using c) hr⟩
  | .seq ds, v, c, h => by
    simp only [RV] at h ⊢
    obtain ⟨a, xs, e, hs, hr⟩ := h
    exact ⟨a, xs, e, hs, RVs.cut ds xs (by simpa [closed] using c) hr⟩
  | .loc l, v, c, h => by
    simp only [RV] at h ⊢
    obtain ⟨a, f, e, hl⟩ := h
    have hl' : l < β.length := by simpa [closed] using c
    rw [List.getElem?_append_left hl'] at hl
    exact ⟨a, f, e, hl⟩
  | .fn n, v, _, h => by simpa [RV] using h
theorem RVs.cut {G : Gx} {H : Hp} {β more : List Pl} : ∀ (ds : List D) (vs : List V), closeds β.length ds = true → RVs G H (β ++ more) vs ds → RVs G H β vs ds
  | [], vs, _, h => by simpa [RVs] using h
  | d :: ds, vs, c, h => by
    simp only [RVs] at h ⊢
    obtain ⟨x, r, e, h1, h2⟩ := h
    have c' : closed β.length d = true ∧ closeds β.length ds = true := by simpa [closeds] using c
    exact ⟨x, r, e, RV.cut d x c'.1 h1, RVs.cut ds r c'.2 h2⟩
end
theorem RVs.length {G : Gx} {H : Hp} {β : List Pl} : ∀ {ds : List D} {vs : List V}, RVs G H β vs ds → vs.length = ds.length
  | [], vs, h => by simp only [RVs] at h; subst h; rfl
  | d :: ds, vs, h => by
    simp only [RVs] at h
    obtain ⟨x, r, rfl, _, h2⟩ := h
    simp [RVs.length h2]
theorem RVs.get {G : Gx} {H : Hp} {β : List Pl} : ∀ {ds : List D} {vs : List V} {i : Nat} {d : D}, RVs G H β vs ds → ds[i]? = some d → ∃ v, vs[i]? = some v ∧ RV G H β v d
  | [], vs, i, d, h, e => by simp at e
  | d' :: ds, vs, 0, d, h, e => by
    simp only [RVs] at h
    obtain ⟨x, r, rfl, h1, h2⟩ := h
    simp only [List.getElem?_cons_zero, Option.some.injEq] at e
    subst e
    exact ⟨x, rfl, h1⟩
  | d' :: ds, vs, i + 1, d, h, e => by
    simp only [RVs] at h
    obtain ⟨x, r, rfl, h1, h2⟩ := h
    obtain ⟨v, e1, h3⟩ := RVs.get h2 (i := i) (d := d) (by simpa using e)
    exact ⟨v, by simpa using e1, h3⟩
theorem RVs.get' {G : Gx} {H : Hp} {β : List Pl} {ds : List D} {vs : List V} {i : Nat} {v : V} (h : RVs G H β vs ds) (e : vs[i]? = some v) : ∃ d, ds[i]? = some d ∧ RV G H β v d := by
  have hl := h.length
  have hi := (List.getElem?_eq_some_iff.mp e).1
  have e' : ds[i]? = some ds[i] := List.getElem?_eq_getElem (by omega)
  obtain ⟨v', e1, r⟩ := h.get e'
  rw [e] at e1
  cases e1
  exact ⟨_, e', r⟩
theorem RVs.append {G : Gx} {H : Hp} {β : List Pl} : ∀ {ds es : List D} {vs us : List V}, RVs G H β vs ds → RVs G H β us es → RVs G H β (vs ++ us) (ds ++ es)
  | [], es, vs, us, h, g => by simp only [RVs] at h; subst h; simpa using g
  | d :: ds, es, vs, us, h, g => by
    simp only [RVs] at h
    obtain ⟨x, r, rfl, h1, h2⟩ := h
    simp only [List.cons_append, RVs]
    exact ⟨x, r ++ us, rfl, h1, RVs.append h2 g⟩
theorem RVs.one {G : Gx} {H : Hp} {β : List Pl} {d : D} {v : V} (h : RV G H β v d) : RVs G H β [v] [d] := by
  simp only [RVs]
  exact ⟨v, [], rfl, h, rfl⟩
theorem RVs.nil {G : Gx} {H : Hp} {β : List Pl} : RVs G H β [] [] := by simp [RVs]
theorem RVs.cons {G : Gx} {H : Hp} {β : List Pl} {d : D} {v : V} {ds : List D} {vs : List V} (h : RV G H β v d) (g : RVs G H β vs ds) : RVs G H β (v :: vs) (d :: ds) := by
  simp only [RVs]
  exact ⟨v, vs, rfl, h, g⟩
theorem RVs.uncons {G : Gx} {H : Hp} {β : List Pl} {d : D} {v : V} {ds : List D} {vs : List V} (h : RVs G H β (v :: vs) (d :: ds)) : RV G H β v d ∧ RVs G H β vs ds := by
  simp only [RVs] at h
  obtain ⟨x, r, e, h1, h2⟩ := h
  cases e
  exact ⟨h1, h2⟩
theorem RVs.drop {G : Gx} {H : Hp} {β : List Pl} : ∀ (n : Nat) {ds : List D} {vs : List V}, RVs G H β vs ds → RVs G H β (vs.drop n) (ds.drop n)
  | 0, _, _, h => h
  | n + 1, [], vs, h => by simp only [RVs] at h; subst h; simp [RVs]
  | n + 1, d :: ds, vs, h => by
    simp only [RVs] at h
    obtain ⟨x, r, rfl, h1, h2⟩ := h
    exact RVs.drop n h2
theorem RVs.take {G : Gx} {H : Hp} {β : List Pl} : ∀ (n : Nat) {ds : List D} {vs : List V}, RVs G H β vs ds → RVs G H β (vs.take n) (ds.take n)
  | 0, _, _, h => by simp [RVs]
  | n + 1, [], vs, h => by simp only [RVs] at h; subst h; simp [RVs]
  | n + 1, d :: ds, vs, h => by
    simp only [RVs] at h
    obtain ⟨x, r, rfl, h1, h2⟩ := h
    simp only [List.take_succ_cons]
    exact RVs.cons h1 (RVs.take n h2)
theorem RVs.set {G : Gx} {H : Hp} {β : List Pl} {d : D} {v : V} (q : RV G H β v d) : ∀ (n : Nat) {ds : List D} {vs : List V}, RVs G H β vs ds → RVs G H β (vs.set n v) (ds.set n d)
  | n, [], vs, h => by simp only [RVs] at h; subst h; simp [RVs]
  | 0, d' :: ds, vs, h => by
    simp only [RVs] at h
    obtain ⟨x, r, rfl, h1, h2⟩ := h
    exact RVs.cons q h2
  | n + 1, d' :: ds, vs, h => by
    simp only [RVs] at h
    obtain ⟨x, r, rfl, h1, h2⟩ := h
    exact RVs.cons h1 (RVs.set q n h2)

/-- an entry of a dict, told: its key and its value -/
def RValue (G : Gx) (H : Hp) (β : List Pl) (u : Value) (d : D) : Prop := ∃ v, RelV v u ∧ RV G H β v d
/-- a raw dict -/
def dictO (a : Addr) (es : Array DictEntry) (ep : Nat) : HO := .ext fun h => ∃ o, h.get? a = some o ∧ o.ExactDict ∧ o.data = .dict es ep
/-- the entries of a dict, by the one or the other kind of keys -/
def EntM (G : Gx) (H : Hp) (β : List Pl) (es : Array DictEntry) (kvs : List (D × D)) : Prop :=
  ∃ ks : List (L2.Key × Value), KeysOf (mixKind G.P G.w) es ∧ Pairs (mixKind G.P G.w) es.toList ks ∧ (ks.map (·.1)).Nodup ∧
    Paired (fun p (q : D × D) => keyM q.1 = some p.1 ∧ RValue G H β p.2 q.2) ks kvs
def EntN (G : Gx) (H : Hp) (β : List Pl) (es : Array DictEntry) (kvs : List (D × D)) : Prop :=
  ∃ xs : List (NestedKey × Addr × Value), es.toList = xs.map (entryOfKey (nestedKind G.P G.w)) ∧ (xs.map (·.1)).Nodup ∧
    Paired (fun x (q : D × D) => keyN q.1 = some x.1 ∧ x.1.depth ≤ 8 ∧ RV G H β (.ref x.2.1) q.1 ∧ RValue G H β x.2.2 q.2) xs kvs
/-- the attributes of an instance -/
def RFs (G : Gx) (H : Hp) (β : List Pl) : List (Str × V) → List (Nat × D) → Prop := Paired fun p q => p.1 = G.xf q.1 ∧ RV G H β p.2 q.2
/-- what stands at a place -/
def RO (G : Gx) (H : Hp) (β : List Pl) (a : Addr) : O → Prop
  | .lst ds => ∃ xs, H a = some (.lst xs) ∧ RVs G H β xs ds
  | .dict kvs _ => (a == sysModules) = false ∧ kvs.length ≤ sizeLine ∧ ∃ es ep, H a = some (dictO a es ep) ∧ (EntM G H β es kvs ∨ EntN G H β es kvs)
  | .inst c fs => ∃ C dx vs, G.ca c = some C ∧ H a = some (.ins C dx vs) ∧ H dx = some (.own a) ∧ RFs G H β vs fs
structure Rp (G : Gx) (H : Hp) (β : List Pl) (m : Mem) : Prop where
  len : β.length = m.length
  nd : (β.map (·.1)).Nodup
  at_ : ∀ (l : Nat) (o : O) (a : Addr) (f : Bool), m[l]? = some o → β[l]? = some (a, f) → f = lkO o ∧ RO G H β a o
/-- from H, β on -/
structure Ext (β : List Pl) (H H' : Hp) (β' : List Pl) : Prop where
  bl : BL β β'
  fr : ∀ b o, H b = some o → (b, false) ∉ β → H' b = some o
  nw : ∀ b f, (b, f) ∈ β' → (b, false) ∈ β ∨ (b, f) ∈ β ∨ H b = none
theorem Ext.refl {β : List Pl} {H : Hp} : Ext β H H β := ⟨BL.refl _, fun _ _ h _ => h, fun _ _ h => .inr (.inl h)⟩
theorem Ext.trans {β β1 β2 : List Pl} {H H1 H2 : Hp} (a : Ext β H H1 β1) (b : Ext β1 H1 H2 β2) : Ext β H H2 β2 where
  bl := a.bl.trans b.bl
  fr := fun p o e n => b.fr p o (a.fr p o e n) fun z => by
    rcases a.nw p false z with h | h | h
    · exact n h
    · exact n h
    · rw [e] at h; cases h
  nw := fun p f h => by
    rcases b.nw p f h with z | z | z
    · rcases a.nw p false z with z | z | z
      · exact .inl z
      · exact .inl z
      · exact .inr (.inr z)
    · exact a.nw p f z
    · by_cases hb : (p, false) ∈ β
      · exact .inl hb
      · cases q : H p with
        | none => exact .inr (.inr rfl)
        | some o => rw [a.fr p o q hb] at z; cases z
/-- no place holds a tuple or a locked thing -/
theorem Rp.kind {G : Gx} {H : Hp} {β : List Pl} {m : Mem} (r : Rp G H β m) {b : Addr} {o : HO} (e : H b = some o) (h : match o with | .tup _ => True | .frz _ _ => True | .own _ => True | .xd _ => True | .tbl _ => True | .met _ _ => True | .rng _ _ => True | .set _ _ => True | _ => False) (f : Bool) : (b, f) ∉ β := by
  intro hb
  obtain ⟨l, hl⟩ := List.mem_iff_getElem?.mp hb
  have hlt := (List.getElem?_eq_some_iff.mp hl).1
  rw [r.len] at hlt
  have hm : m[l]? = some m[l] := List.getElem?_eq_getElem hlt
  have := (r.at_ l _ b f hm hl).2
  generalize m[l] = ob at this
  cases ob with
  | lst ds => obtain ⟨xs, h1, _⟩ := this; rw [e] at h1; cases h1; exact h
  | dict kvs lk => obtain ⟨_, _, es, ep, h1, _⟩ := this; rw [e] at h1; cases h1; exact h
  | inst c fs => obtain ⟨C, dx, vs, _, h1, _⟩ := this; rw [e] at h1; cases h1; exact h
theorem Ext.tl {G : Gx} {H H' : Hp} {β β' : List Pl} {m : Mem} (x : Ext β H H' β') (r : Rp G H β m) : TL G.K H H' := by
  refine ⟨fun b xs h => ?_, fun b xs h => ?_⟩
  · rcases h with ⟨o, h, hd⟩ | h
    · exact .inl ⟨o, x.fr _ _ h (r.kind h trivial false), hd⟩
    · exact .inr h
  · rcases h with ⟨o, h⟩ | h
    · exact .inl ⟨o, x.fr _ _ h (r.kind h trivial false)⟩
    · exact .inr h
/-- the slots -/
structure RS (G : Gx) (H : Hp) (β : List Pl) (σ : L2.St) (ρ : Env) : Prop where
  len : σ.length = ρ.length
  at_ : ∀ (i : Nat) (d : D), ρ[i]? = some (some d) → ∃ v, σ[i]? = some (some v) ∧ RV G H β v d
theorem RS.mono {G : Gx} {H H' : Hp} {β β' : List Pl} {σ : L2.St} {ρ : Env} (r : RS G H β σ ρ) (t : TL G.K H H') (b : BL β β') : RS G H' β' σ ρ :=
  ⟨r.len, fun i d e => let ⟨v, h1, h2⟩ := r.at_ i d e; ⟨v, h1, RV.mono t b d v h2⟩⟩
theorem RS.ext {G : Gx} {H H' : Hp} {β β' : List Pl} {m : Mem} {σ : L2.St} {ρ : Env} (r : RS G H β σ ρ) (p : Rp G H β m) (x : Ext β H H' β') : RS G H' β' σ ρ := r.mono (x.tl p) x.bl
theorem RS.set {G : Gx} {H : Hp} {β : List Pl} {σ : L2.St} {ρ : Env} (r : RS G H β σ ρ) (i : Nat) {d : D} {v : V} (q : RV G H β v d) : RS G H β (σ.set i (some v)) (ρ.set i (some d)) where
  len := by simp [r.len]
  at_ := fun j e h => by
    by_cases hj : i = j
    · subst hj
      have hlt : i < ρ.length := by
        have := (List.getElem?_eq_some_iff.mp h).1
        simpa using this
      rw [List.getElem?_set_self hlt] at h
      simp only [Option.some.injEq] at h
      subst h
      exact ⟨v, List.getElem?_set_self (by rw [r.len]; exact hlt), q⟩
    · rw [List.getElem?_set_ne hj] at h
      obtain ⟨v', h1, h2⟩ := r.at_ j e h
      exact ⟨v', by rw [List.getElem?_set_ne hj]; exact h1, h2⟩
theorem RS.unset {G : Gx} {H : Hp} {β : List Pl} {σ : L2.St} {ρ : Env} (r : RS G H β σ ρ) (i : Nat) (y : Option V) : RS G H β (σ.set i y) (ρ.set i none) where
  len := by simp [r.len]
  at_ := fun j e h => by
    by_cases hj : i = j
    · subst hj
      have hlt : i < ρ.length := by
        have := (List.getElem?_eq_some_iff.mp h).1
        simpa using this
      rw [List.getElem?_set_self hlt] at h
      simp at h
    · rw [List.getElem?_set_ne hj] at h
      obtain ⟨v', h1, h2⟩ := r.at_ j e h
      exact ⟨v', by rw [List.getElem?_set_ne hj]; exact h1, h2⟩
/-- an exception: its class, its one field -/
def RX (G : Gx) (H : Hp) (β : List Pl) (cls : Value) (dd : Option Addr) (c : Nat) (p : Option D) : Prop :=
  ∃ C, cls = .ref C ∧ G.ca c = some C ∧ match p with
    | none => dd = none
    | some d => ∃ x v, dd = some x ∧ H x = some (.xd [(G.xf c, v)]) ∧ RV G H β v d
/-- what is wanted behind a value -/
def Post (G : Gx) (H : Hp) (β : List Pl) (m' : Mem) (v : D) (Q : VK) : Prop := ∀ u β' H', Ext β H H' β' → Rp G H' β' m' → RV G H' β' u v → Q u H'
def PostX (G : Gx) (H : Hp) (β : List Pl) (m' : Mem) (c : Nat) (p : Option D) (W : XK) : Prop := ∀ cls dd β' H', Ext β H H' β' → Rp G H' β' m' → RX G H' β' cls dd c p → W cls dd H'
def GoodE (G : Gx) (W : XK) (H : Hp) (β : List Pl) (Q : VK) : Out D → Prop
  | .ok v m' => Post G H β m' v Q
  | .exc c p m' => PostX G H β m' c p W
  | .bad => False
/-- the reading of an expression by its denotation -/
def tE (G : Gx) (W : WX) (fe : FE) (d : Den) : TE := fun σ H Q => ∃ β m ρ, Rp G H β m ∧ RS G H β σ ρ ∧ GoodE G (fun c d H' => W c d σ H') H β Q (d fe ρ m)
end Mn
set_option Elab.async false
set_option linter.all false
set_option maxRecDepth 100000
set_option maxHeartbeats 1000000
/-! Mn3: what a step leaves; joining. -/
namespace Mn
open PySem L2
theorem Paired.mapP' {α β : Type} {F G : α → β → Prop} {l₁ : List α} {l₂ : List β} (h : Paired F l₁ l₂) (f : ∀ a b, F a b → G a b) : Paired G l₁ l₂ := Paired.mapP h f
theorem RValue.mono {G : Gx} {H H' : Hp} {β β' : List Pl} (t : TL G.K H H') (b : BL β β') {u : Value} {d : D} (h : RValue G H β u d) : RValue G H' β' u d :=
  let ⟨v, r, q⟩ := h; ⟨v, r, RV.mono t b d v q⟩
theorem EntM.mono {G : Gx} {H H' : Hp} {β β' : List Pl} (t : TL G.K H H') (b : BL β β') {es : Array DictEntry} {kvs : List (D × D)} (h : EntM G H β es kvs) : EntM G H' β' es kvs :=
  let ⟨ks, h1, h2, h3, h4⟩ := h; ⟨ks, h1, h2, h3, Paired.mapP h4 fun _ _ z => ⟨z.1, z.2.mono t b⟩⟩
theorem EntN.mono {G : Gx} {H H' : Hp} {β β' : List Pl} (t : TL G.K H H') (b : BL β β') {es : Array DictEntry} {kvs : List (D × D)} (h : EntN G H β es kvs) : EntN G H' β' es kvs :=
  let ⟨ks, h1, h2, h3⟩ := h; ⟨ks, h1, h2, Paired.mapP h3 fun _ _ z => ⟨z.1, z.2.1, RV.mono t b _ _ z.2.2.1, z.2.2.2.mono t b⟩⟩
theorem RFs.mono {G : Gx} {H H' : Hp} {β β' : List Pl} (t : TL G.K H H') (b : BL β β') {vs : List (Str × V)} {fs : List (Nat × D)} (h : RFs G H β vs fs) : RFs G H' β' vs fs :=
  Paired.mapP h fun _ _ z => ⟨z.1, RV.mono t b _ _ z.2⟩
theorem RO.mono {G : Gx} {H H' : Hp} {β β' : List Pl} (t : TL G.K H H') (b : BL β β') {a : Addr} (ha : ∀ o, H a = some o → H' a = some o) (ho : ∀ dx, H dx = some (.own a) → H' dx = some (.own a)) {o : O} (h : RO G H β a o) : RO G H' β' a o := by
  cases o with
  | lst ds => obtain ⟨xs, h1, h2⟩ := h; exact ⟨xs, ha _ h1, RVs.mono t b ds xs h2⟩
  | dict kvs lk =>
    obtain ⟨h1, h2, es, ep, h3, h4⟩ := h
    refine ⟨h1, h2, es, ep, ha _ h3, ?_⟩
    rcases h4 with h4 | h4
    · exact .inl (h4.mono t b)
    · exact .inr (h4.mono t b)
  | inst c fs => obtain ⟨C, dx, vs, h1, h2, h3, h4⟩ := h; exact ⟨C, dx, vs, h1, ha _ h2, ho _ h3, h4.mono t b⟩
/-- a longer heap -/
abbrev Hle (H H' : Hp) : Prop := ∀ b o, H b = some o → H' b = some o
theorem Hle.tl {K : PySem.W.Frag} {H H' : Hp} (h : Hle H H') : TL K H H' := by
  refine ⟨fun b xs x => ?_, fun b xs x => ?_⟩
  · rcases x with ⟨o, x, hd⟩ | x
    · exact .inl ⟨o, h _ _ x, hd⟩
    · exact .inr x
  · rcases x with ⟨o, x⟩ | x
    · exact .inl ⟨o, h _ _ x⟩
    · exact .inr x
theorem Hle.upd {H : Hp} {p : Addr} {o : HO} (h : H p = none) : Hle H (upd H p o) := fun b o' e => by rw [upd_ne (ne_of_none e h)]; exact e
theorem Rp.le {G : Gx} {H H' : Hp} {β : List Pl} {m : Mem} (r : Rp G H β m) (h : Hle H H') : Rp G H' β m :=
  ⟨r.len, r.nd, fun l o a f e1 e2 => ⟨(r.at_ l o a f e1 e2).1, (r.at_ l o a f e1 e2).2.mono h.tl (BL.refl _) (h a) fun dx q => h dx _ q⟩⟩
theorem Ext.le {H H' : Hp} {β : List Pl} (h : Hle H H') : Ext β H H' β := ⟨BL.refl _, fun b o e _ => h b o e, fun _ _ h => .inr (.inl h)⟩
/-- each place stands in the heap -/
theorem Rp.there {G : Gx} {H : Hp} {β : List Pl} {m : Mem} (r : Rp G H β m) {a : Addr} {f : Bool} (h : (a, f) ∈ β) : ∃ o, H a = some o := by
  obtain ⟨l, hl⟩ := List.mem_iff_getElem?.mp h
  have hlt := (List.getElem?_eq_some_iff.mp hl).1
  rw [r.len] at hlt
  have := (r.at_ l _ a f (List.getElem?_eq_getElem hlt) hl).2
  generalize m[l] = ob at this
  cases ob with
  | lst ds => obtain ⟨xs, h1, _⟩ := this; exact ⟨_, h1⟩
  | dict kvs lk => obtain ⟨_, _, es, ep, h1, _⟩ := this; exact ⟨_, h1⟩
  | inst c fs => obtain ⟨C, dx, vs, _, h1, _⟩ := this; exact ⟨_, h1⟩
theorem Rp.fresh {G : Gx} {H : Hp} {β : List Pl} {m : Mem} (r : Rp G H β m) {p : Addr} (h : H p = none) (f : Bool) : (p, f) ∉ β := fun q => by
  obtain ⟨o, e⟩ := r.there q
  rw [h] at e; cases e
/-- a new place -/
theorem Rp.alloc {G : Gx} {H : Hp} {β : List Pl} {m : Mem} (r : Rp G H β m) {p : Addr} {ob : HO} {o : O} (hp : H p = none) (hf : lkO o = false) (new : RO G (upd H p ob) (β ++ [(p, false)]) p o) : Rp G (upd H p ob) (β ++ [(p, false)]) (m ++ [o]) where
  len := by simp [r.len]
  nd := by
    rw [List.map_append, List.nodup_append]
    refine ⟨r.nd, by simp, fun a ha b hb => ?_⟩
    simp only [List.map_cons, List.map_nil, List.mem_singleton] at hb
    subst hb
    obtain ⟨q, hq, rfl⟩ := List.mem_map.mp ha
    exact fun e => r.fresh (p := q.1) (by rw [e]; exact hp) q.2 hq
  at_ := fun l o' a f e1 e2 => by
    have h := Hle.upd (o := ob) hp
    by_cases hl : l < m.length
    · rw [List.getElem?_append_left hl] at e1
      rw [List.getElem?_append_left (by rw [r.len]; exact hl)] at e2
      exact ⟨(r.at_ l o' a f e1 e2).1, (r.at_ l o' a f e1 e2).2.mono h.tl ⟨_, rfl⟩ (h a) fun dx q => h dx _ q⟩
    · have hl2 : l = m.length := by
        have := (List.getElem?_eq_some_iff.mp e1).1
        simp only [List.length_append, List.length_singleton] at this
        omega
      subst hl2
      rw [List.getElem?_append_right (Nat.le_refl _)] at e1
      rw [List.getElem?_append_right (by rw [r.len]; exact Nat.le_refl _)] at e2
      simp only [Nat.sub_self, List.getElem?_cons_zero, Option.some.injEq, r.len] at e1 e2
      subst e1
      cases e2
      exact ⟨hf.symm, new⟩
theorem Ext.alloc {H : Hp} {β : List Pl} {p : Addr} {ob : HO} (hp : H p = none) : Ext β H (upd H p ob) (β ++ [(p, false)]) :=
  ⟨⟨_, rfl⟩, fun b o e _ => Hle.upd hp b o e, fun b f h => by
    rcases List.mem_append.mp h with h | h
    · exact .inr (.inl h)
    · simp only [List.mem_singleton] at h
      cases h; exact .inr (.inr hp)⟩
/-- a place is written -/
theorem Ext.write {H : Hp} {β : List Pl} {l : Nat} {a : Addr} {ob : HO} (ha : β[l]? = some (a, false)) : Ext β H (upd H a ob) β :=
  ⟨BL.refl _, fun b o e n => by
    rw [upd_ne fun q : b = a => n (by rw [q]; exact List.mem_of_getElem? ha)]
    exact e, fun _ _ h => .inr (.inl h)⟩
theorem Rp.write {G : Gx} {H : Hp} {β : List Pl} {m : Mem} (r : Rp G H β m) {l : Nat} {a : Addr} {ob : HO} {o : O} (ha : β[l]? = some (a, false)) (hf : lkO o = false) (new : RO G (upd H a ob) β a o) : Rp G (upd H a ob) β (m.set l o) where
  len := by simp [r.len]
  nd := r.nd
  at_ := fun j o' b f e1 e2 => by
    have x := Ext.write (H := H) (ob := ob) ha
    by_cases hj : l = j
    · subst hj
      rw [ha] at e2; cases e2
      have hl := (List.getElem?_eq_some_iff.mp e1).1
      rw [List.length_set] at hl
      rw [List.getElem?_set_self hl] at e1
      cases e1
      exact ⟨hf.symm, new⟩
    · rw [List.getElem?_set_ne hj] at e1
      have hba : b ≠ a := fun q => hj (by
        subst q
        have h1 : (β.map (·.1))[l]? = some b := by rw [List.getElem?_map, ha]; rfl
        have h2 : (β.map (·.1))[j]? = some b := by rw [List.getElem?_map, e2]; rfl
        exact (List.getElem?_inj (List.getElem?_eq_some_iff.mp h1).1 r.nd).mp (h1.trans h2.symm))
      refine ⟨(r.at_ j o' b f e1 e2).1, (r.at_ j o' b f e1 e2).2.mono (x.tl r) (BL.refl _) (fun o e => by rw [upd_ne hba]; exact e) fun dx q => ?_⟩
      exact x.fr dx _ q (r.kind q trivial false)
mutual
theorem RV.closed {G : Gx} {H : Hp} {β : List Pl} : ∀ (d : D) (v : V), RV G H β v d → closed β.length d = true
  | .non, v, _ => rfl
  | .bl _, v, _ => rfl
  | .int _, v, _ => rfl
  | .str _, v, _ => rfl
  | .tup ds, v, h => by
    simp only [RV] at h
    obtain ⟨a, xs, e, hs, hr⟩ := h
    simp only [Mn.closed]
    exact RVs.closed ds xs hr
  | .seq ds, v, h => by
    simp only [RV] at h
    obtain ⟨a, xs, e, hs, hr⟩ := h
    simp only [Mn.closed]
    exact RVs.closed ds xs hr
  | .loc l, v, h => by
    simp only [RV] at h
    obtain ⟨a, f, e, hl⟩ := h
    simp only [Mn.closed]
    exact decide_eq_true (List.getElem?_eq_some_iff.mp hl).1
  | .fn n, v, _ => rfl
theorem RVs.closed {G : Gx} {H : Hp} {β : List Pl} : ∀ (ds : List D) (vs : List V), RVs G H β vs ds → closeds β.length ds = true
  | [], vs, _ => rfl
  | d :: ds, vs, h => by
    simp only [RVs] at h
    obtain ⟨x, r, e, h1, h2⟩ := h
    simp only [closeds, RV.closed d x h1, RVs.closed ds r h2, Bool.and_self]
end
theorem RValue.cut {G : Gx} {H : Hp} {β more : List Pl} {u : Value} {d : D} (c : closed β.length d = true) (h : RValue G H (β ++ more) u d) : RValue G H β u d :=
  let ⟨v, r, q⟩ := h; ⟨v, r, RV.cut d v c q⟩
theorem RValue.closed {G : Gx} {H : Hp} {β : List Pl} {u : Value} {d : D} (h : RValue G H β u d) : Mn.closed β.length d = true :=
  let ⟨v, r, q⟩ := h; RV.closed d v q
/-- the object leads to no place from n on -/
def closedP (n : Nat) : O → Prop
  | .lst ds => closeds n ds = true
  | .dict kvs _ => ∀ q ∈ kvs, closed n q.1 = true ∧ closed n q.2 = true
  | .inst _ fs => ∀ q ∈ fs, closed n q.2 = true
theorem Paired.mem2 {α β : Type} {F : α → β → Prop} : ∀ {l₁ : List α} {l₂ : List β}, Paired F l₁ l₂ → ∀ b ∈ l₂, ∃ a ∈ l₁, F a b
  | _, _, .nil, b, h => by simp at h
  | _, _, .cons r t, b, h => by
    rcases List.mem_cons.mp h with rfl | h
    · exact ⟨_, List.mem_cons_self, r⟩
    · obtain ⟨a, h1, h2⟩ := Paired.mem2 t b h
      exact ⟨a, List.mem_cons_of_mem _ h1, h2⟩
theorem Paired.impMem {α β : Type} {F G : α → β → Prop} : ∀ {l₁ : List α} {l₂ : List β}, Paired F l₁ l₂ → (∀ a, ∀ b ∈ l₂, F a b → G a b) → Paired G l₁ l₂
  | _, _, .nil, _ => .nil
  | _, _, .cons r t, f => .cons (f _ _ List.mem_cons_self r) (Paired.impMem t fun a b h => f a b (List.mem_cons_of_mem _ h))
mutual
theorem keyN_closed (n : Nat) : ∀ (d : D) (k : NestedKey), keyN d = some k → closed n d = true
  | .non, k, _ => rfl
  | .int _, k, _ => rfl
  | .str _, k, _ => rfl
  | .tup xs, k, h => by
    simp only [keyN, Option.map_eq_some_iff] at h
    obtain ⟨ks, h1, _⟩ := h
    simp only [closed]
    exact keyNs_closed n xs ks h1
  | .bl _, k, h => by simp [keyN] at h
  | .seq _, k, h => by simp [keyN] at h
  | .loc _, k, h => by simp [keyN] at h
  | .fn _, k, h => by simp [keyN] at h
theorem keyNs_closed (n : Nat) : ∀ (ds : List D) (ks : List NestedKey), keyNs ds = some ks → closeds n ds = true
  | [], _, _ => rfl
  | d :: ds, ks, h => by
    simp only [keyNs] at h
    split at h
    · rename_i k ks' e1 e2
      simp only [closeds, keyN_closed n d k e1, keyNs_closed n ds ks' e2, Bool.and_self]
    · cases h
end
theorem keyM_closed (n : Nat) {d : D} {k : L2.Key} (h : keyM d = some k) : closed n d = true := by
  cases d <;> simp [keyM] at h <;> rfl
theorem RO.closed {G : Gx} {H : Hp} {β : List Pl} {a : Addr} {o : O} (h : RO G H β a o) : closedP β.length o := by
  cases o with
  | lst ds => obtain ⟨xs, h1, h2⟩ := h; exact RVs.closed ds xs h2
  | dict kvs lk =>
    obtain ⟨_, _, es, ep, _, h4⟩ := h
    intro q hq
    rcases h4 with ⟨ks, _, _, _, h⟩ | ⟨xs, _, _, h⟩
    · obtain ⟨p, _, h1, h2⟩ := Paired.mem2 h q hq
      exact ⟨keyM_closed _ h1, h2.closed⟩
    · obtain ⟨p, _, h1, _, _, h2⟩ := Paired.mem2 h q hq
      exact ⟨keyN_closed _ _ _ h1, h2.closed⟩
  | inst c fs =>
    obtain ⟨C, dx, vs, _, _, _, h⟩ := h
    intro q hq
    obtain ⟨p, _, _, h2⟩ := Paired.mem2 h q hq
    exact RV.closed _ _ h2
theorem RO.cut {G : Gx} {H : Hp} {β more : List Pl} {a : Addr} {o : O} (c : closedP β.length o) (h : RO G H (β ++ more) a o) : RO G H β a o := by
  cases o with
  | lst ds => obtain ⟨xs, h1, h2⟩ := h; exact ⟨xs, h1, RVs.cut ds xs c h2⟩
  | dict kvs lk =>
    obtain ⟨h1, h2, es, ep, h3, h4⟩ := h
    refine ⟨h1, h2, es, ep, h3, ?_⟩
    rcases h4 with ⟨ks, e1, e2, e3, h⟩ | ⟨xs, e1, e2, h⟩
    · exact .inl ⟨ks, e1, e2, e3, Paired.impMem h fun p q hq z => ⟨z.1, z.2.cut (c q hq).2⟩⟩
    · exact .inr ⟨xs, e1, e2, Paired.impMem h fun p q hq z => ⟨z.1, z.2.1, RV.cut _ _ (c q hq).1 z.2.2.1, z.2.2.2.cut (c q hq).2⟩⟩
  | inst k fs =>
    obtain ⟨C, dx, vs, h1, h2, h3, h⟩ := h
    exact ⟨C, dx, vs, h1, h2, h3, Paired.impMem h fun p q hq z => ⟨z.1, RV.cut _ _ (c q hq) z.2⟩⟩
/-- what was made on the way is forgotten -/
theorem Rp.cut {G : Gx} {H H' : Hp} {β β' : List Pl} {m m' : Mem} (r : Rp G H β m) (b : BL β β') (r' : Rp G H' β' m') (e : m'.take m.length = m) : Rp G H' β m := by
  obtain ⟨more, rfl⟩ := b
  refine ⟨r.len, r.nd, fun l o a f e1 e2 => ?_⟩
  have hl := (List.getElem?_eq_some_iff.mp e1).1
  have e3 : m'[l]? = some o := by
    have : (m'.take m.length)[l]? = some o := by rw [e]; exact e1
    rw [List.getElem?_take_of_lt hl] at this
    exact this
  have e4 : (β ++ more)[l]? = some (a, f) := by rw [List.getElem?_append_left (by rw [r.len]; exact hl)]; exact e2
  exact ⟨(r.at_ l o a f e1 e2).1, RO.cut (r.at_ l o a f e1 e2).2.closed (r'.at_ l o a f e3 e4).2⟩
theorem closedP_of {n : Nat} {o : O} (h : closedO n o = true) : closedP n o := by
  cases o with
  | lst ds => exact h
  | dict kvs lk =>
    intro q hq
    have := List.all_eq_true.mp h q hq
    simpa using this
  | inst c fs =>
    intro q hq
    exact List.all_eq_true.mp h q hq
theorem Rp.cutA {G : Gx} {H H' : Hp} {β β' : List Pl} {m m' : Mem} (r : Rp G H β m) (b : BL β β') (r' : Rp G H' β' m') (e : cutOk m m' = true) : Rp G H' β (m'.take m.length) := by
  simp only [cutOk, Bool.or_eq_true, decide_eq_true_eq, Bool.and_eq_true] at e
  rcases e with e | ⟨e1, e2⟩
  · have := r.cut b r' e
    rw [e]
    exact this
  · obtain ⟨more, rfl⟩ := b
    refine ⟨by rw [List.length_take, r.len]; omega, r.nd, fun l o a f q1 q2 => ?_⟩
    have hl : l < m.length := by
      have := (List.getElem?_eq_some_iff.mp q1).1
      rw [List.length_take] at this
      omega
    have q3 := q1
    rw [List.getElem?_take_of_lt hl] at q3
    have q4 : (β ++ more)[l]? = some (a, f) := by rw [List.getElem?_append_left (by rw [r.len]; exact hl)]; exact q2
    have z := r'.at_ l o a f q3 q4
    refine ⟨z.1, RO.cut ?_ z.2⟩
    have hm : o ∈ m'.take m.length := List.mem_of_getElem? q1
    rw [r.len]
    exact closedP_of (List.all_eq_true.mp e2 o hm)
theorem Ext.cut {H H' : Hp} {β β' : List Pl} (x : Ext β H H' β') : Ext β H H' β := ⟨BL.refl _, x.fr, fun _ _ h => .inr (.inl h)⟩

/-! ### joining -/
/-- an end of any kind -/
def GoodO {α : Type} (G : Gx) (W : XK) (H : Hp) (β : List Pl) (K : α → Mem → Hp → List Pl → Prop) : Out α → Prop
  | .ok a m' => ∀ β' H', Ext β H H' β' → Rp G H' β' m' → K a m' H' β'
  | .exc c p m' => PostX G H β m' c p W
  | .bad => False
section
variable {α γ : Type} {G : Gx} {W : XK} {H : Hp} {β : List Pl}
theorem GoodE.iff {Q : VK} {r : Out D} : GoodE G W H β Q r ↔ GoodO G W H β (fun v _ H' β' => ∀ u, RV G H' β' u v → Q u H') r := by
  cases r with
  | ok v m => exact ⟨fun h β' H' x r u q => h u β' H' x r q, fun h u β' H' x r q => h β' H' x r u q⟩
  | exc c p m => exact Iff.rfl
  | bad => exact Iff.rfl
theorem PostX.ext {m' : Mem} {c : Nat} {p : Option D} {H1 : Hp} {β1 : List Pl} (h : PostX G H β m' c p W) (x : Ext β H H1 β1) : PostX G H1 β1 m' c p W := fun cls dd β' H' x' r q => h cls dd β' H' (x.trans x') r q
theorem GoodO.ext {K : α → Mem → Hp → List Pl → Prop} {r : Out α} {H1 : Hp} {β1 : List Pl} (h : GoodO G W H β K r) (x : Ext β H H1 β1) : GoodO G W H1 β1 K r := by
  cases r with
  | ok a m => exact fun β' H' x' r => h β' H' (x.trans x') r
  | exc c p m => exact PostX.ext h x
  | bad => exact h
theorem GoodO.mono {K K' : α → Mem → Hp → List Pl → Prop} {r : Out α} (h : GoodO G W H β K r) (f : ∀ a m' H' β', Ext β H H' β' → Rp G H' β' m' → K a m' H' β' → K' a m' H' β') : GoodO G W H β K' r := by
  cases r with
  | ok a m => exact fun β' H' x r => f _ _ _ _ x r (h β' H' x r)
  | exc c p m => exact h
  | bad => exact h
theorem GoodO.bind {K : γ → Mem → Hp → List Pl → Prop} {r : Out α} {k : α → Mem → Out γ} (h : GoodO G W H β K (r.bind k)) : GoodO G W H β (fun a m1 H1 β1 => GoodO G W H1 β1 K (k a m1)) r := by
  cases r with
  | ok a m => exact fun β' H' x _ => GoodO.ext (show GoodO G W H β K (k a m) from h) x
  | exc c p m => exact h
  | bad => exact h
/-- garbage goes -/
theorem GoodE.gc {Q : VK} {m : Mem} {r : Out D} (p : Rp G H β m) (h : GoodE G W H β Q (gcO m r)) : GoodE G W H β Q r := by
  cases r with
  | ok v m' =>
    simp only [gcO] at h
    by_cases c : cutOk m m' = true ∧ closed m.length v = true
    · rw [if_pos c] at h
      intro u β' H' x r q
      have hb := x.bl
      obtain ⟨more, rfl⟩ := hb
      exact h u β H' x.cut (p.cutA ⟨more, rfl⟩ r c.1) (RV.cut v u (by rw [p.len]; exact c.2) q)
    · rw [if_neg c] at h
      exact h
  | exc c q m' =>
    simp only [gcO] at h
    by_cases cc : cutOk m m' = true ∧ (q.all (closed m.length)) = true
    · rw [if_pos cc] at h
      intro cls dd β' H' x r z
      have hb := x.bl
      obtain ⟨more, rfl⟩ := hb
      refine h cls dd β H' x.cut (p.cutA ⟨more, rfl⟩ r cc.1) ?_
      obtain ⟨C, e1, e2, e3⟩ := z
      refine ⟨C, e1, e2, ?_⟩
      cases q with
      | none => exact e3
      | some d =>
        obtain ⟨a, v, h1, h2, h3⟩ := e3
        exact ⟨a, v, h1, h2, RV.cut d v (by rw [p.len]; simpa using cc.2) h3⟩
    · rw [if_neg cc] at h
      exact h
  | bad => exact h
theorem GoodO.gcB {Q : Bool → Hp → Prop} {m : Mem} {r : Out Bool} (p : Rp G H β m) (h : GoodO G W H β (fun b _ H' _ => Q b H') (gcB m r)) : GoodO G W H β (fun b _ H' _ => Q b H') r := by
  cases r with
  | ok v m' =>
    simp only [Mn.gcB] at h
    by_cases c : cutOk m m' = true
    · rw [if_pos c] at h
      intro β' H' x r
      have hb := x.bl
      exact h β H' x.cut (p.cutA hb r c)
    · rw [if_neg c] at h
      exact h
  | exc c q m' =>
    simp only [Mn.gcB] at h
    by_cases cc : cutOk m m' = true ∧ (q.all (closed m.length)) = true
    · rw [if_pos cc] at h
      intro cls dd β' H' x r z
      have hb := x.bl
      obtain ⟨more, rfl⟩ := hb
      refine h cls dd β H' x.cut (p.cutA ⟨more, rfl⟩ r cc.1) ?_
      obtain ⟨C, e1, e2, e3⟩ := z
      refine ⟨C, e1, e2, ?_⟩
      cases q with
      | none => exact e3
      | some d =>
        obtain ⟨a, v, h1, h2, h3⟩ := e3
        exact ⟨a, v, h1, h2, RV.cut d v (by rw [p.len]; simpa using cc.2) h3⟩
    · rw [if_neg cc] at h
      exact h
  | bad => exact h
end
end Mn
set_option Elab.async false
set_option linter.all false
set_option maxRecDepth 100000
set_option maxHeartbeats 1000000
/-! Mn4: operators. -/
namespace Mn
open PySem L2
def PostO (G : Gx) (H : Hp) (β : List Pl) (Q : VK) : Option (D × Mem) → Prop
  | some (v, m') => Post G H β m' v Q
  | none => False
theorem GoodE.ofO {G : Gx} {W : XK} {H : Hp} {β : List Pl} {Q : VK} {r : Option (D × Mem)} (h : GoodE G W H β Q (Out.ofO r)) : PostO G H β Q r := by
  cases r with
  | none => exact h
  | some p => exact h
section
variable {G : Gx} {H : Hp} {β : List Pl} {m : Mem} {Q : VK}
theorem Post.same {d : D} {u : V} (h : Post G H β m d Q) (r : Rp G H β m) (q : RV G H β u d) : Q u H := h u β H Ext.refl r q
theorem Post.int {i : Int} (h : Post G H β m (.int i) Q) (r : Rp G H β m) : Q (.int i) H := h.same r (by simp [RV])
theorem Post.bl {i : Bool} (h : Post G H β m (.bl i) Q) (r : Rp G H β m) : Q (.bl i) H := h.same r (by simp [RV])
theorem Post.str {i : Str} (h : Post G H β m (.str i) Q) (r : Rp G H β m) : Q (.str i) H := h.same r (by simp [RV])
theorem Post.non (h : Post G H β m .non Q) (r : Rp G H β m) : Q .non H := h.same r (by simp [RV])
theorem Post.tup {ds : List D} {xs : List V} (h : Post G H β m (.tup ds) Q) (r : Rp G H β m) (q : RVs G H β xs ds) {p : Addr} {o : Obj} (hp : H p = none) (ho : o.dict = none) : Q (.ref p) (upd H p (.frz o (.tup xs))) := by
  have l := Hle.upd (o := .frz o (.tup xs)) hp
  refine h _ β _ (Ext.le l) (r.le l) ?_
  simp only [RV]
  exact ⟨p, xs, rfl, .inl ⟨o, upd_same, ho⟩, RVs.mono l.tl (BL.refl _) ds xs q⟩
theorem Post.lst {ds : List D} {xs : List V} (h : Post G H β (m ++ [.lst ds]) (.loc m.length) Q) (r : Rp G H β m) (q : RVs G H β xs ds) {p : Addr} (hp : H p = none) : Q (.ref p) (upd H p (.lst xs)) := by
  have l := Hle.upd (o := .lst xs) hp
  refine h _ (β ++ [(p, false)]) _ (Ext.alloc hp) (r.alloc hp rfl ⟨xs, upd_same, RVs.mono l.tl ⟨_, rfl⟩ ds xs q⟩) ?_
  simp only [RV]
  exact ⟨p, false, rfl, by rw [← r.len]; simp⟩
theorem Rp.lst {l : Nat} {ds : List D} {v : V} (r : Rp G H β m) (e : m[l]? = some (.lst ds)) (q : RV G H β v (.loc l)) : ∃ a xs, v = .ref a ∧ β[l]? = some (a, false) ∧ H a = some (.lst xs) ∧ RVs G H β xs ds := by
  simp only [RV] at q
  obtain ⟨a, f, rfl, h⟩ := q
  obtain ⟨hf, xs, h1, h2⟩ := r.at_ l _ a f e h
  cases (show f = false from hf)
  exact ⟨a, xs, rfl, h, h1, h2⟩
theorem Rp.dict {l : Nat} {kvs : List (D × D)} {lk : Bool} {v : V} (r : Rp G H β m) (e : m[l]? = some (.dict kvs lk)) (q : RV G H β v (.loc l)) :
    ∃ a es ep, v = .ref a ∧ β[l]? = some (a, lk) ∧ (a == sysModules) = false ∧ kvs.length ≤ sizeLine ∧ H a = some (dictO a es ep) ∧ (EntM G H β es kvs ∨ EntN G H β es kvs) := by
  simp only [RV] at q
  obtain ⟨a, f, rfl, h⟩ := q
  obtain ⟨hf, h0, h1, es, ep, h2, h3⟩ := r.at_ l _ a f e h
  cases (show f = lk from hf)
  exact ⟨a, es, ep, rfl, h, h0, h1, h2, h3⟩
theorem mapM_some {α γ : Type} {f : α → Option γ} : ∀ {xs : List α} {ys : List γ}, xs.mapM f = some ys → Paired (fun x y => f x = some y) xs ys
  | [], ys, h => by simp at h; subst h; exact .nil
  | x :: xs, ys, h => by
    rw [List.mapM_cons] at h
    cases e : f x with
    | none => rw [e] at h; simp at h
    | some y =>
      rw [e] at h
      cases e2 : xs.mapM f with
      | none => rw [e2] at h; simp at h
      | some zs =>
        rw [e2] at h
        simp at h
        subst h
        exact .cons e (mapM_some e2)
theorem rd_dps (ih : ∀ (d : D) (x : PyData) (v : V), rd m n d = some x → RV G H β v d → Dp G.K H v x) : ∀ {ds : List D} {ys : List PyData} {vs : List V}, Paired (fun d y => rd m n d = some y) ds ys → RVs G H β vs ds → DpAll G.K H vs ys
  | _, _, vs, .nil, h => by simp only [RVs] at h; subst h; exact .nil
  | _, _, vs, .cons r t, h => by
    simp only [RVs] at h
    obtain ⟨x, q, rfl, h1, h2⟩ := h
    exact .cons (ih _ _ _ r h1) (rd_dps ih t h2)
theorem rd_dp (r : Rp G H β m) : ∀ (n : Nat) (d : D) (x : PyData) (v : V), rd m n d = some x → RV G H β v d → Dp G.K H v x
  | n, .non, x, v, h, q => by simp only [rd, Option.some.injEq] at h; simp only [RV] at q; subst h q; exact .non
  | n, .bl b, x, v, h, q => by simp only [rd, Option.some.injEq] at h; simp only [RV] at q; subst h q; exact .bl b
  | n, .int i, x, v, h, q => by simp only [rd, Option.some.injEq] at h; simp only [RV] at q; subst h q; exact .int i
  | n, .str s, x, v, h, q => by
    simp only [rd] at h; simp only [RV] at q; subst q
    split at h
    · simp only [Option.some.injEq] at h; subst h; exact .str s
    · cases h
  | 0, .tup _, x, v, h, q => by simp [rd] at h
  | n + 1, .tup ds, x, v, h, q => by
    simp only [rd, Option.map_eq_some_iff] at h
    obtain ⟨ys, h1, rfl⟩ := h
    simp only [RV] at q
    obtain ⟨a, xs, rfl, hs, hr⟩ := q
    exact .tup hs.sq (rd_dps (fun d x v => rd_dp r n d x v) (mapM_some h1) hr)
  | 0, .seq _, x, v, h, q => by simp [rd] at h
  | n + 1, .seq ds, x, v, h, q => by
    simp only [rd, Option.map_eq_some_iff] at h
    obtain ⟨ys, h1, rfl⟩ := h
    simp only [RV] at q
    obtain ⟨a, xs, rfl, hs, hr⟩ := q
    exact .lst hs.sq (rd_dps (fun d x v => rd_dp r n d x v) (mapM_some h1) hr)
  | 0, .loc _, x, v, h, q => by simp [rd] at h
  | n + 1, .loc l, x, v, h, q => by
    simp only [rd] at h
    cases e : m[l]? with
    | none => rw [e] at h; simp at h
    | some o =>
      rw [e] at h
      cases o with
      | lst ds =>
        simp only [Option.map_eq_some_iff] at h
        obtain ⟨ys, h1, rfl⟩ := h
        obtain ⟨a, xs, rfl, _, hs, hr⟩ := r.lst e q
        exact .lst (SqL.of hs) (rd_dps (fun d x v => rd_dp r n d x v) (mapM_some h1) hr)
      | dict kvs => simp at h
      | inst c fs => simp at h
  | _, .fn _, x, v, h, q => by simp [rd] at h
theorem rd_ok : ∀ (n : Nat) (d : D) (x : PyData), rd m n d = some x → x.canLay0 = true ∧ x.depth ≤ n
  | n, .non, x, h => by simp only [rd, Option.some.injEq] at h; subst h; exact ⟨rfl, Nat.zero_le _⟩
  | n, .bl b, x, h => by simp only [rd, Option.some.injEq] at h; subst h; exact ⟨rfl, Nat.zero_le _⟩
  | n, .int i, x, h => by simp only [rd, Option.some.injEq] at h; subst h; exact ⟨rfl, Nat.zero_le _⟩
  | n, .str s, x, h => by
    simp only [rd] at h
    split at h
    · rename_i c
      simp only [Option.some.injEq] at h; subst h; exact ⟨by simpa [PyData.canLay0] using c, Nat.zero_le _⟩
    · cases h
  | 0, .tup _, x, h => by simp [rd] at h
  | n + 1, .tup ds, x, h => by
    simp only [rd, Option.map_eq_some_iff] at h
    obtain ⟨ys, h1, rfl⟩ := h
    have k := rd_oks n (mapM_some h1) fun d x => rd_ok n d x
    exact ⟨by simpa [PyData.canLay0] using k.1, by simpa [PyData.depth] using k.2⟩
  | 0, .seq _, x, h => by simp [rd] at h
  | n + 1, .seq ds, x, h => by
    simp only [rd, Option.map_eq_some_iff] at h
    obtain ⟨ys, h1, rfl⟩ := h
    have k := rd_oks n (mapM_some h1) fun d x => rd_ok n d x
    exact ⟨by simpa [PyData.canLay0] using k.1, by simpa [PyData.depth] using k.2⟩
  | 0, .loc _, x, h => by simp [rd] at h
  | n + 1, .loc l, x, h => by
    simp only [rd] at h
    cases e : m[l]? with
    | none => rw [e] at h; simp at h
    | some o =>
      rw [e] at h
      cases o with
      | lst ds =>
        simp only [Option.map_eq_some_iff] at h
        obtain ⟨ys, h1, rfl⟩ := h
        have k := rd_oks n (mapM_some h1) fun d x => rd_ok n d x
        exact ⟨by simpa [PyData.canLay0] using k.1, by simpa [PyData.depth] using k.2⟩
      | dict kvs => simp at h
      | inst c fs => simp at h
  | _, .fn _, x, h => by simp [rd] at h
where
  rd_oks (n : Nat) : ∀ {ds : List D} {ys : List PyData}, Paired (fun d y => rd m n d = some y) ds ys → (∀ (d : D) (x : PyData), rd m n d = some x → x.canLay0 = true ∧ x.depth ≤ n) → PyData.canLayAll0 ys = true ∧ PyData.depthAll ys ≤ n
    | _, _, .nil, _ => ⟨rfl, Nat.zero_le _⟩
    | _, _, .cons r t, ih => by
      have a := ih _ _ r
      have b := rd_oks n t ih
      exact ⟨by simp [PyData.canLayAll0, a.1, b.1], by simp only [PyData.depthAll]; omega⟩
theorem rd_shaped {n : Nat} {d : D} {x : PyData} (hn : n ≤ 64) (h : rd m n d = some x) : SeqAt.shaped x = true := by
  obtain ⟨h1, h2⟩ := rd_ok n d x h
  simp only [SeqAt.shaped, h1, Bool.true_and]
  exact decide_eq_true (by omega)
mutual
theorem pure_rd : ∀ (n : Nat) (d : D), pureD n d = true → rd m n d = some (toPy d)
  | n, .non, _ => by simp [rd, toPy]
  | n, .bl _, _ => by simp [rd, toPy]
  | n, .int _, _ => by simp [rd, toPy]
  | n, .str s, h => by
    have h' : PyData.strOk s = true := by simpa [pureD] using h
    simp [rd, toPy, h']
  | 0, .tup _, h => by simp [pureD] at h
  | n + 1, .tup xs, h => by
    simp only [rd, toPy, pure_rds n xs (by simpa [pureD] using h), Option.map_some]
  | n, .seq _, h => by simp [pureD] at h
  | n, .loc _, h => by simp [pureD] at h
  | n, .fn _, h => by simp [pureD] at h
theorem pure_rds : ∀ (n : Nat) (ds : List D), pureDs n ds = true → ds.mapM (rd m n) = some (toPys ds)
  | n, [], _ => by simp [toPys]
  | n, d :: ds, h => by
    have h' : pureD n d = true ∧ pureDs n ds = true := by simpa [pureDs] using h
    rw [List.mapM_cons, pure_rd n d h'.1, pure_rds n ds h'.2]
    simp [toPys]
end
end
mutual
theorem eqv_py : ∀ (n k : Nat) (a b : D), pureD n a = true → pureD k b = true → eqv a b = PyData.eqv (toPy a) (toPy b)
  | n, k, .non, b, _, hb => by cases b <;> first | (simp [pureD] at hb; done) | rfl | simp [eqv, toPy, PyData.eqv]
  | n, k, .bl _, b, _, hb => by cases b <;> first | (simp [pureD] at hb; done) | rfl | simp [eqv, toPy, PyData.eqv]
  | n, k, .int _, b, _, hb => by cases b <;> first | (simp [pureD] at hb; done) | rfl | simp [eqv, toPy, PyData.eqv]
  | n, k, .str _, b, _, hb => by cases b <;> first | (simp [pureD] at hb; done) | rfl | simp [eqv, toPy, PyData.eqv]
  | 0, k, .tup _, b, h, _ => by simp [pureD] at h
  | n + 1, 0, .tup xs, b, h, hb => by cases b <;> first | (simp [pureD] at hb; done) | simp [eqv, toPy, PyData.eqv]
  | n + 1, k + 1, .tup xs, b, h, hb => by
    cases b with
    | tup ys =>
      simp only [eqv, toPy, PyData.eqv]
      exact eqvs_py n k xs ys (by simpa [pureD] using h) (by simpa [pureD] using hb)
    | _ => first | (simp [pureD] at hb; done) | simp [eqv, toPy, PyData.eqv]
  | n, k, .seq _, b, h, _ => by simp [pureD] at h
  | n, k, .loc _, b, h, _ => by simp [pureD] at h
  | n, k, .fn _, b, h, _ => by simp [pureD] at h
theorem eqvs_py : ∀ (n k : Nat) (a b : List D), pureDs n a = true → pureDs k b = true → eqvs a b = PyData.eqvAll (toPys a) (toPys b)
  | n, k, [], [], _, _ => by simp [eqvs, toPys, PyData.eqvAll]
  | n, k, [], _ :: _, _, _ => by simp [eqvs, toPys, PyData.eqvAll]
  | n, k, _ :: _, [], _, _ => by simp [eqvs, toPys, PyData.eqvAll]
  | n, k, x :: xs, y :: ys, h, hb => by
    have h' : pureD n x = true ∧ pureDs n xs = true := by simpa [pureDs] using h
    have hb' : pureD k y = true ∧ pureDs k ys = true := by simpa [pureDs] using hb
    simp only [eqvs, toPys, PyData.eqvAll, eqv_py n k x y h'.1 hb'.1, eqvs_py n k xs ys h'.2 hb'.2]
end
/-- what eqM tells is what == tells of the trees -/
theorem eqM_rd {m : Mem} {a b : D} {k : Bool} (h : eqM m a b = some k) : ∃ x y, rd m 12 a = some x ∧ rd m 12 b = some y ∧ k = PyData.eqv x y := by
  unfold eqM at h
  split at h
  · rename_i c
    simp only [Option.some.injEq] at h
    exact ⟨_, _, pure_rd 12 a c.1, pure_rd 12 b c.2, by rw [← h]; exact eqv_py _ _ _ _ c.1 c.2⟩
  · split at h
    · rename_i x y e1 e2
      simp only [Option.some.injEq] at h
      exact ⟨x, y, e1, e2, h.symm⟩
    · cases h

/-! ### the rules -/
def rO2 (G : Gx) (f : Op2) : R2 := fun x y H Q => ∃ β m a b, Rp G H β m ∧ RV G H β x a ∧ RV G H β y b ∧ PostO G H β Q (f a b m)
/-- the text's part is the context's -/
structure On (G : Gx) (X : Cx) : Prop where
  P : X.prog = G.P
  w : X.w = G.w
  K : X.K = G.K
/-! ### tuples that have no attributes -/
section
open PySem.Spec PyProof.Rows
variable {X : Cx} {es : List Expr} {t : TA} {pos : Pos}
def tTupF (t : TA) : TE := fun σ H Q => t σ H fun xs H1 => xs.length ≤ sizeLine ∧ ∀ p o, H1 p = none → Obj.dict o = none → Q (.ref p) (upd H1 p (.frz o (.tup xs)))
/-- a tuple just laid -/
theorem laidF {pins : List (Addr × Obj)} {σ : L2.St} {H : Hp} {s : Shared} {h' : Heap} {tk : Nat} {a : Addr} {xs : List V} {us : List Value} (I : L2.Inv X pins σ H s) (k : ∀ b u, s.heap.get? b = some u → h'.get? b = some u) (hp : s.heap.objs.size ≤ a)
    (hz : xs.length ≤ sizeLine) (r : Vals xs us) (he : h'.get? a = some { cls := .type "tuple", data := .seq us.toArray }) : L2.Inv X pins σ (upd H a (.frz { cls := .type "tuple", data := .seq us.toArray } (.tup xs))) { s with heap := h', toks := tk } :=
  I.laid (t' := tk) k hp ⟨he, hz, us, r, ⟨_, he, rfl, _, rfl⟩⟩
theorem pe_tupF {x1} (h : PA X es t) : PE X (.Tuple es x1 pos) (tTupF t) := by
  refine ⟨fun pins s σ H Q I hq => ?_⟩
  refine wpAny_Tuple_spliced (thn (h.run pos pins s σ H _ I hq) fun us s1 ⟨xs, H1, I1, r, z, q⟩ => ⟨by rw [← r.length]; exact z, ?_⟩)
  have hf : H1 s1.heap.objs.size = none := I1.hok.fresh (Nat.le_refl _)
  exact ⟨.ref s1.heap.objs.size, _, laidF I1 (tk := s1.toks) (fun b u e => Heap.get?_push_of_some _ e) (Nat.le_refl _) z r (Heap.get?_push_size _ rfl), rfl, q _ _ hf rfl⟩
def rCatF (K : PySem.W.Frag) : R2 := fun x y H Q => ∃ a b xs ys, x = .ref a ∧ y = .ref b ∧ SqT K H a xs ∧ SqT K H b ys ∧ xs.length + ys.length ≤ sizeLine ∧
  (xs = [] → Q (.ref b) H) ∧ (xs ≠ [] → ys = [] → Q (.ref a) H) ∧ (xs ≠ [] → ys ≠ [] → ∀ p o, H p = none → Obj.dict o = none → Q (.ref p) (upd H p (.frz o (.tup (xs ++ ys)))))
theorem op_catF : OpR X (binaryOp .Add) (rCatF X.K) := by
  intro pins s σ H x y v u Q I rx ry h
  obtain ⟨a, b, xs, ys, rfl, rfl, ha, hb, hz, q0, q1, q2⟩ := h
  by_cases hx : xs = []
  · exact op_catA pins s σ H _ _ v u Q I rx ry ⟨a, b, xs, ys, rfl, rfl, ha, hb, hz, q0, q1, fun n => absurd hx n⟩
  · cases rx
    cases ry
    obtain ⟨its, r1, p1, _⟩ := I.tuple ha
    obtain ⟨its2, r2, p2, _⟩ := I.tuple hb
    refine HT.cat_tup p1 p2 (fun z => hx (r1.nil_iff.mp z)) (fun z => ⟨.ref a, H, I, rfl, q1 hx (r2.nil_iff.mp z)⟩) (fun z => ?_) (by rw [← r1.length, ← r2.length]; exact hz)
    exact ⟨.ref s.heap.objs.size, _, laidF I (tk := s.toks) (fun b ob q => Heap.get?_push_of_some _ q) (Nat.le_refl _) (by rw [List.length_append]; exact hz) (r1.append r2) (Heap.get?_push_size _ rfl), rfl, q2 hx (fun w => z (r2.nil_iff.mpr w)) _ _ (I.hok.fresh (Nat.le_refl _)) rfl⟩
def rSlF (K : PySem.W.Frag) : V → Option Int → Option Int → Hp → VK → Prop := fun x lo hi H Q => ∃ a xs, x = .ref a ∧ SqT K H a xs ∧
  (HT.sIx xs.length 0 lo = 0 ∧ HT.sIx xs.length xs.length hi = xs.length → Q (.ref a) H) ∧ (¬ (HT.sIx xs.length 0 lo = 0 ∧ HT.sIx xs.length xs.length hi = xs.length) → ∀ p o, H p = none → Obj.dict o = none → Q (.ref p) (upd H p (.frz o (.tup (cutV xs lo hi)))))
theorem sl_tupF : SlR X (rSlF X.K) := by
  intro pins s σ H x v vl vu lo hi sl Q I rx hs pl pu h
  obtain ⟨a, xs, rfl, hx, q1, q2⟩ := h
  by_cases hw : HT.sIx xs.length 0 lo = 0 ∧ HT.sIx xs.length xs.length hi = xs.length
  · exact sl_tupA pins s σ H _ v vl vu lo hi sl Q I rx hs pl pu ⟨a, xs, rfl, hx, q1, fun n => absurd hw n⟩
  · cases rx
    obtain ⟨its, r, ht, hz⟩ := I.tuple hx
    have hlen : its.toArray.size = xs.length := by rw [List.size_toArray]; exact r.length.symm
    refine ⟨"tuple", _, PyProof.Rows.slot_tuple_getitem.lookup, ht.typeIs, ?_⟩
    refine HT.getItem_tuple_cut ht hs pl pu (by rw [hlen]; exact hw) ?_ (by rw [hlen]; exact hz)
    rw [hlen]
    exact ⟨.ref s.heap.objs.size, _, laidF I (tk := s.toks) (fun b ob q => Heap.get?_push_of_some _ q) (Nat.le_refl _) (Nat.le_trans (cutV_length xs lo hi) hz) ((r.drop (HT.sIx xs.length 0 lo)).take (HT.sIx xs.length xs.length hi - HT.sIx xs.length 0 lo)) (Heap.get?_push_size _ rfl), rfl, q2 hw _ _ (I.hok.fresh (Nat.le_refl _)) rfl⟩
theorem call_tupleF : CallR X (.type "tuple") (fun xs H Q => ∃ p ys, xs = [.ref p] ∧ ((SqL X.K H p ys ∧ ∀ l o, H l = none → Obj.dict o = none → Q (.ref l) (upd H l (.frz o (.tup ys)))) ∨ (SqT X.K H p ys ∧ Q (.ref p) H))) := by
  intro pins s σ H xs us Q I r h
  obtain ⟨p, ys, rfl, h⟩ := h
  rcases h with ⟨hq, q⟩ | ⟨hq, q⟩
  · obtain ⟨u, rfl, rx⟩ := vals1 r
    cases rx
    obtain ⟨its, r', pl, hz⟩ := I.list hq
    have hlen := r'.length
    refine call_tuple_list pl.isList (fun h' kp => ?_) (by simp only [List.size_toArray] <;> omega)
    have I1 : L2.Inv X pins σ H { s with heap := h' } := I.kept (t' := s.toks) kp
    have I2 := laidF (s := { s with heap := h' }) (h' := h'.push { cls := .type "tuple", data := .seq its.toArray }) (a := h'.objs.size) I1 (tk := s.toks) (fun b o e => Heap.get?_push_of_some _ e) (Nat.le_refl _) hz r' (Heap.get?_push_size _ rfl)
    exact ⟨.ref h'.objs.size, _, I2, rfl, q _ _ (I1.hok.fresh (Nat.le_refl _)) rfl⟩
  · exact call_tuple_of pins s σ H _ us Q I r ⟨p, ys, rfl, .inr ⟨hq, q⟩⟩
end
section
variable {G : Gx} {X : Cx}
theorem opAdd_ok (on : On G X) : OpR X (binaryOp .Add) (rO2 G opAdd) := by
  intro pins s σ H x y v u Q I rx ry ⟨β, m, a, b, rp, ra, rb, h⟩
  unfold opAdd at h
  split at h
  · simp only [RV] at ra rb; subst ra rb
    exact op_add pins s σ H _ _ v u Q I rx ry ⟨_, _, rfl, rfl, Post.int h rp⟩
  · simp only [RV] at ra rb; subst ra rb
    split at h
    · rename_i c
      exact op_add_str pins s σ H _ _ v u Q I rx ry ⟨_, _, rfl, rfl, c, Post.str h rp⟩
    · exact h.elim
  · rename_i xs ys
    split at h
    · rename_i c
      simp only [RV] at ra rb
      obtain ⟨p, vs, rfl, h1, h2⟩ := ra
      obtain ⟨q, us, rfl, h3, h4⟩ := rb
      rw [← on.K] at h1 h3
      refine op_catF pins s σ H _ _ v u Q I rx ry ⟨p, q, vs, us, rfl, rfl, h1.sq, h3.sq, by rw [h2.length, h4.length]; exact c, fun e => ?_, fun _ e => ?_, fun _ _ z o hz ho => ?_⟩
      · subst e
        have := h2.length
        have e2 : xs = [] := by cases xs with
          | nil => rfl
          | cons _ _ => simp at this
        subst e2
        refine Post.same h rp ?_
        simp only [RV, List.nil_append]
        exact ⟨q, us, rfl, on.K ▸ h3, h4⟩
      · subst e
        have := h4.length
        have e2 : ys = [] := by cases ys with
          | nil => rfl
          | cons _ _ => simp at this
        subst e2
        refine Post.same h rp ?_
        simp only [RV, List.append_nil]
        exact ⟨p, vs, rfl, on.K ▸ h1, h2⟩
      · exact Post.tup h rp (h2.append h4) hz ho
    · exact h.elim
  · split at h
    · rename_i xs ys e1 e2
      split at h
      · rename_i c
        obtain ⟨p, vs, rfl, _, h1, h2⟩ := rp.lst e1 ra
        obtain ⟨q, us, rfl, _, h3, h4⟩ := rp.lst e2 rb
        exact op_cat pins s σ H _ _ v u Q I rx ry ⟨p, q, vs, us, rfl, rfl, h1, h3, by rw [h2.length, h4.length]; exact c, fun z hz => Post.lst h rp (h2.append h4) hz⟩
      · exact h.elim
    · exact h.elim
  · exact h.elim
theorem opSub_ok (on : On G X) : OpR X (binaryOp .Sub) (rO2 G opSub) := by
  intro pins s σ H x y v u Q I rx ry ⟨β, m, a, b, rp, ra, rb, h⟩
  unfold opSub at h
  split at h
  · simp only [RV] at ra rb; subst ra rb
    exact op_sub pins s σ H _ _ v u Q I rx ry ⟨_, _, rfl, rfl, Post.int h rp⟩
  · exact h.elim
theorem RVs.rep {H : Hp} {β : List Pl} {ds : List D} {vs : List V} (h : RVs G H β vs ds) : ∀ k : Nat, RVs G H β (List.replicate k vs).flatten (List.replicate k ds).flatten
  | 0 => by simp [RVs]
  | k + 1 => by
    simp only [List.replicate_succ, List.flatten_cons]
    exact h.append (RVs.rep h k)
theorem opMul_ok (on : On G X) : OpR X (binaryOp .Mult) (rO2 G opMul) := by
  intro pins s σ H x y v u Q I rx ry ⟨β, m, a, b, rp, ra, rb, h⟩
  unfold opMul at h
  split at h
  · simp only [RV] at ra rb; subst ra rb
    split at h
    · rename_i c
      exact op_mul pins s σ H _ _ v u Q I rx ry ⟨_, _, rfl, rfl, c, Post.int h rp⟩
    · exact h.elim
  · split at h
    · rename_i xs e1
      split at h
      · rename_i c
        obtain ⟨p, vs, rfl, _, h1, h2⟩ := rp.lst e1 ra
        simp only [RV] at rb; subst rb
        exact op_rep pins s σ H _ _ v u Q I rx ry ⟨p, _, vs, rfl, rfl, h1, c.1, c.2.1, by rw [h2.length]; exact c.2.2, fun z hz => Post.lst h rp (h2.rep _) hz⟩
      · exact h.elim
    · exact h.elim
  · exact h.elim
theorem opFdiv_ok (on : On G X) : OpR X (binaryOp .FloorDiv) (rO2 G opFdiv) := by
  intro pins s σ H x y v u Q I rx ry ⟨β, m, a, b, rp, ra, rb, h⟩
  unfold opFdiv at h
  split at h
  · simp only [RV] at ra rb; subst ra rb
    split at h
    · rename_i c
      exact op_fdivN pins s σ H _ _ v u Q I rx ry ⟨_, _, rfl, rfl, c, Post.int h rp⟩
    · exact h.elim
  · exact h.elim
theorem opMod_ok (on : On G X) : OpR X (binaryOp .Mod) (rO2 G opMod) := by
  intro pins s σ H x y v u Q I rx ry ⟨β, m, a, b, rp, ra, rb, h⟩
  unfold opMod at h
  split at h
  · simp only [RV] at ra rb; subst ra rb
    split at h
    · rename_i c
      exact op_modN pins s σ H _ _ v u Q I rx ry ⟨_, _, rfl, rfl, c, Post.int h rp⟩
    · exact h.elim
  · exact h.elim
theorem opPow_ok (on : On G X) : OpR X (binaryOp .Pow) (rO2 G opPow) := by
  intro pins s σ H x y v u Q I rx ry ⟨β, m, a, b, rp, ra, rb, h⟩
  unfold opPow at h
  split at h
  · simp only [RV] at ra rb; subst ra rb
    split at h
    · rename_i c
      exact op_pow pins s σ H _ _ v u Q I rx ry ⟨_, _, rfl, rfl, c, Post.int h rp⟩
    · exact h.elim
  · exact h.elim
theorem opEq_ok (on : On G X) (hu : X.A.units + 64 < cLine) : OpR X (compareOp .Eq) (rO2 G opEq) := by
  intro pins s σ H x y v u Q I rx ry ⟨β, m, a, b, rp, ra, rb, h⟩
  unfold opEq at h
  cases e : eqM m a b with
  | none => rw [e] at h; exact h.elim
  | some k =>
    rw [e] at h
    obtain ⟨d1, d2, e1, e2, rfl⟩ := eqM_rd e
    exact op_eqD hu pins s σ H _ _ v u Q I rx ry ⟨d1, d2, on.K ▸ rd_dp rp _ _ _ _ e1 ra, on.K ▸ rd_dp rp _ _ _ _ e2 rb, rd_shaped (by decide) e1, rd_shaped (by decide) e2, Post.bl h rp⟩
theorem opNe_ok (on : On G X) (hu : X.A.units + 64 < cLine) : OpR X (compareOp .NotEq) (rO2 G opNe) := by
  intro pins s σ H x y v u Q I rx ry ⟨β, m, a, b, rp, ra, rb, h⟩
  unfold opNe at h
  cases e : eqM m a b with
  | none => rw [e] at h; exact h.elim
  | some k =>
    rw [e] at h
    obtain ⟨d1, d2, e1, e2, rfl⟩ := eqM_rd e
    exact op_neD hu pins s σ H _ _ v u Q I rx ry ⟨d1, d2, on.K ▸ rd_dp rp _ _ _ _ e1 ra, on.K ▸ rd_dp rp _ _ _ _ e2 rb, rd_shaped (by decide) e1, rd_shaped (by decide) e2, Post.bl h rp⟩
end
end Mn
set_option Elab.async false
set_option linter.all false
set_option maxRecDepth 100000
set_option maxHeartbeats 1000000
/-! Mn5: dicts. -/
namespace Mn
open PySem L2 PySem.Spec PyProof.Rows
/-! ### keys -/
mutual
theorem keyN_inj : ∀ (a b : D) (k : NestedKey), keyN a = some k → keyN b = some k → a = b
  | .non, b, k, ha, hb => by
    simp only [keyN, Option.some.injEq] at ha; subst ha
    cases b <;> simp [keyN] at hb <;> rfl
  | .int i, b, k, ha, hb => by
    simp only [keyN, Option.some.injEq] at ha; subst ha
    cases b <;> simp [keyN] at hb
    rw [hb]
  | .str i, b, k, ha, hb => by
    simp only [keyN, Option.some.injEq] at ha; subst ha
    cases b <;> simp [keyN] at hb
    rw [hb]
  | .tup xs, b, k, ha, hb => by
    simp only [keyN, Option.map_eq_some_iff] at ha
    obtain ⟨ks, h1, rfl⟩ := ha
    cases b <;> simp [keyN] at hb
    rw [keyNs_inj xs _ ks h1 hb]
  | .bl _, b, k, ha, hb => by simp [keyN] at ha
  | .seq _, b, k, ha, hb => by simp [keyN] at ha
  | .loc _, b, k, ha, hb => by simp [keyN] at ha
  | .fn _, b, k, ha, hb => by simp [keyN] at ha
theorem keyNs_inj : ∀ (a b : List D) (k : List NestedKey), keyNs a = some k → keyNs b = some k → a = b
  | [], b, k, ha, hb => by
    simp only [keyNs, Option.some.injEq] at ha; subst ha
    cases b with
    | nil => rfl
    | cons y ys =>
      simp only [keyNs] at hb
      split at hb <;> simp at hb
  | x :: xs, b, k, ha, hb => by
    simp only [keyNs] at ha
    split at ha
    · rename_i k1 ks1 e1 e2
      simp only [Option.some.injEq] at ha
      subst ha
      cases b with
      | nil => simp [keyNs] at hb
      | cons y ys =>
        simp only [keyNs] at hb
        split at hb
        · rename_i k2 ks2 e3 e4
          simp only [Option.some.injEq, List.cons.injEq] at hb
          obtain ⟨rfl, rfl⟩ := hb
          rw [keyN_inj x y _ e1 e3, keyNs_inj xs ys _ e2 e4]
        · cases hb
    · cases ha
end
theorem keyM_inj {a b : D} {k : L2.Key} (ha : keyM a = some k) (hb : keyM b = some k) : a = b := by
  cases a <;> simp [keyM] at ha <;> subst ha <;> cases b <;> simp [keyM] at hb <;> rw [hb]
theorem keyM_kV {G : Gx} {H : Hp} {β : List Pl} {d : D} {k : L2.Key} {v : V} (h : keyM d = some k) (r : RV G H β v d) : v = kV k := by
  cases d <;> simp [keyM] at h <;> subst h <;> simpa [RV, kV] using r
theorem keyT_N {d : D} {k : NestedKey} (h : keyT d = some k) : keyN d = some k ∧ k.depth ≤ 8 ∧ ∃ xs, d = .tup xs := by
  cases d with
  | tup xs =>
    simp only [keyT] at h
    split at h
    · rename_i k' e
      split at h
      · simp only [Option.some.injEq] at h; subst h
        rename_i c
        exact ⟨e, c, _, rfl⟩
      · cases h
    · cases h
  | _ => simp [keyT] at h
mutual
/-- a tuple's key stands in the heap -/
theorem nested_is {X : Cx} {pins : List (Addr × Obj)} {σ : L2.St} {H : Hp} {s : Shared} {G : Gx} {β : List Pl} (on : On G X) (I : L2.Inv X pins σ H s) : ∀ (d : D) (k : NestedKey) (v : V) (u : Value), keyN d = some k → RV G H β v d → RelV v u → NestedIs s.heap k u
  | .non, k, v, u, h, r, q => by
    simp only [keyN, Option.some.injEq] at h; simp only [RV] at r; subst h r
    cases q; exact .none
  | .int i, k, v, u, h, r, q => by
    simp only [keyN, Option.some.injEq] at h; simp only [RV] at r; subst h r
    obtain ⟨t, rfl⟩ := q; exact .int _ _
  | .str i, k, v, u, h, r, q => by
    simp only [keyN, Option.some.injEq] at h; simp only [RV] at r; subst h r
    obtain ⟨t, rfl⟩ := q; exact .text _ _
  | .tup ds, k, v, u, h, r, q => by
    simp only [keyN, Option.map_eq_some_iff] at h
    obtain ⟨ks, h1, rfl⟩ := h
    simp only [RV] at r
    obtain ⟨a, xs, rfl, hs, hr⟩ := r
    cases q
    rw [← on.K] at hs
    obtain ⟨its, rv, ⟨o, ho, hc, n, hd⟩, _⟩ := I.tuple hs.sq
    exact .tup ho hc hd (nested_all on I ds ks xs its h1 hr rv)
  | .bl _, k, v, u, h, r, q => by simp [keyN] at h
  | .seq _, k, v, u, h, r, q => by simp [keyN] at h
  | .loc _, k, v, u, h, r, q => by simp [keyN] at h
  | .fn _, k, v, u, h, r, q => by simp [keyN] at h
theorem nested_all {X : Cx} {pins : List (Addr × Obj)} {σ : L2.St} {H : Hp} {s : Shared} {G : Gx} {β : List Pl} (on : On G X) (I : L2.Inv X pins σ H s) : ∀ (ds : List D) (ks : List NestedKey) (vs : List V) (us : List Value), keyNs ds = some ks → RVs G H β vs ds → Vals vs us → NestedAll s.heap ks us
  | [], ks, vs, us, h, r, q => by
    simp only [keyNs, Option.some.injEq] at h; simp only [RVs] at r; subst h r
    cases q; exact .nil
  | d :: ds, ks, vs, us, h, r, q => by
    simp only [keyNs] at h
    split at h
    · rename_i k' ks' e1 e2
      simp only [Option.some.injEq] at h; subst h
      simp only [RVs] at r
      obtain ⟨x, xs, rfl, r1, r2⟩ := r
      cases q with
      | cons q1 q2 => exact .cons (nested_is on I d k' x _ e1 r1 q1) (nested_all on I ds ks' xs _ e2 r2 q2)
    · cases h
end
/-! ### the two kinds, at a dict's place -/
abbrev PM (G : Gx) (H : Hp) (β : List Pl) : List (L2.Key × Value) → List (D × D) → Prop := Paired (fun p (q : D × D) => keyM q.1 = some p.1 ∧ RValue G H β p.2 q.2)
abbrev PN (G : Gx) (H : Hp) (β : List Pl) : List (NestedKey × Addr × Value) → List (D × D) → Prop :=
  Paired (fun x (q : D × D) => keyN q.1 = some x.1 ∧ x.1.depth ≤ 8 ∧ RV G H β (.ref x.2.1) q.1 ∧ RValue G H β x.2.2 q.2)
theorem rv_ref_tup {G : Gx} {H : Hp} {β : List Pl} {a : Addr} {d : D} {k : NestedKey} (h : keyN d = some k) (r : RV G H β (.ref a) d) : keyM d = none := by
  cases d <;> simp [keyN] at h <;> simp [RV] at r <;> rfl
section
variable {G : Gx} {X : Cx} {pins : List (Addr × Obj)} {σ : L2.St} {H : Hp} {s : Shared} {β : List Pl} {a : Addr} {es : Array DictEntry} {ep : Nat} {kvs : List (D × D)}
theorem dictO_at (I : L2.Inv X pins σ H s) (h : H a = some (dictO a es ep)) : ∃ o ep, s.heap.get? a = some o ∧ o.ExactDict ∧ o.data = .dict es ep := let ⟨o, r⟩ := (I.hok a _ h).1; ⟨o, ep, r⟩
theorem dictO_new {P : Program} {w : World} {H' : Hp} {h' : Heap} (h : ∃ o, h'.get? a = some o ∧ o.ExactDict ∧ o.data = .dict es ep) : ObjOk P w H' h' a (dictO a es ep) :=
  ⟨h, let ⟨o, e, _⟩ := h; ⟨o, e⟩, fun _ _ ⟨o, e, r⟩ k => ⟨o, k o e, r⟩⟩
theorem empty_of {α : Type} {f : DictEntry → α} {l : List DictEntry} {xs : List α} (h : xs = []) (e : l.map f = xs) : l = [] := by
  subst h
  exact List.map_eq_nil_iff.mp e
/-- ints and texts -/
theorem dict_M (on : On G X) (I : L2.Inv X pins σ H s) (h : H a = some (dictO a es ep)) (e : EntM G H β es kvs ∨ EntN G H β es kvs) (hk : kvs.all (fun p => (keyM p.1).isSome) = true) :
    ∃ ks, s.heap.DictOf (mixKind X.prog X.w) a ks ∧ PM G H β ks kvs := by
  obtain ⟨o, ep, h1, h2, h3⟩ := dictO_at I h
  have em : EntM G H β es kvs := by
    rcases e with e | ⟨xs, e1, e2, e3⟩
    · exact e
    · cases kvs with
      | nil =>
        cases e3
        have z : es = #[] := by
          have : es.toList = [] := by simpa using e1
          exact Array.toList_eq_nil_iff.mp this
        subst z
        exact ⟨[], fun e he => by simp at he, .nil, by simp, .nil⟩
      | cons q qs =>
        cases e3 with
        | cons r t =>
          have := rv_ref_tup r.1 r.2.2.1
          simp [this] at hk
  obtain ⟨ks, g1, g2, g3, g4⟩ := em
  rw [on.P, on.w]
  exact ⟨ks, ⟨o, es, ep, h1, h2, h3, g1, g2, g3⟩, g4⟩
/-- tuples -/
theorem dict_N (on : On G X) (I : L2.Inv X pins σ H s) (h : H a = some (dictO a es ep)) (e : EntM G H β es kvs ∨ EntN G H β es kvs) (hk : kvs.all (fun p => (keyT p.1).isSome) = true) :
    ∃ xs, s.heap.DictOfH (nestedKind X.prog X.w) a xs ∧ PN G H β xs kvs := by
  obtain ⟨o, ep, h1, h2, h3⟩ := dictO_at I h
  have em : EntN G H β es kvs := by
    rcases e with ⟨xs, e1, e2, e3, e4⟩ | e
    · cases kvs with
      | nil =>
        cases e4
        have z : es = #[] := by
          have : es.toList = [] := by
            cases hh : es.toList with
            | nil => rfl
            | cons x r => rw [hh] at e2; cases e2
          exact Array.toList_eq_nil_iff.mp this
        subst z
        exact ⟨[], by simp, by simp, .nil⟩
      | cons q qs =>
        cases e4 with
        | cons r t =>
          have h0 : (keyT q.1).isSome = true := by
            simp only [List.all_cons, Bool.and_eq_true] at hk
            exact hk.1
          obtain ⟨k, hk'⟩ := Option.isSome_iff_exists.mp h0
          obtain ⟨_, _, xs, e⟩ := keyT_N hk'
          have r1 := r.1
          rw [e] at r1
          simp [keyM] at r1
    · exact e
  obtain ⟨xs, g1, g2, g3⟩ := em
  refine ⟨xs, ⟨o, es, ep, h1, h2, h3, ?_, fun x hx => ?_, g2⟩, g3⟩
  · rw [on.P, on.w]; exact g1
  · have : ∃ q ∈ kvs, keyN q.1 = some x.1 ∧ x.1.depth ≤ 8 ∧ RV G H β (.ref x.2.1) q.1 ∧ RValue G H β x.2.2 q.2 := by
      have aux : ∀ {l1 : List (NestedKey × Addr × Value)} {l2 : List (D × D)}, PN G H β l1 l2 → x ∈ l1 → ∃ q ∈ l2, keyN q.1 = some x.1 ∧ x.1.depth ≤ 8 ∧ RV G H β (.ref x.2.1) q.1 ∧ RValue G H β x.2.2 q.2 := by
        intro l1 l2 p
        induction p with
        | nil => intro h; simp at h
        | cons r t ih =>
          intro h
          rcases List.mem_cons.mp h with rfl | h
          · exact ⟨_, List.mem_cons_self, r⟩
          · obtain ⟨q, h1, h2⟩ := ih h
            exact ⟨q, List.mem_cons_of_mem _ h1, h2⟩
      exact aux g3 hx
    obtain ⟨q, _, r1, r2, r3, _⟩ := this
    exact ⟨nested_is on I q.1 x.1 _ _ r1 r3 rfl, r2⟩
end
/-- look-ups -/
theorem PM.get {G : Gx} {H : Hp} {β : List Pl} {k : D} {k' : L2.Key} (hk : keyM k = some k') : ∀ {ks : List (L2.Key × Value)} {kvs : List (D × D)}, PM G H β ks kvs →
    (dGet kvs k = none ∧ valueAt ks k' = none) ∨ ∃ d u, dGet kvs k = some d ∧ valueAt ks k' = some u ∧ RValue G H β u d
  | _, _, .nil => .inl ⟨rfl, rfl⟩
  | _, _, .cons (a := p) (b := q) r t => by
    by_cases h : q.1 = k
    · have e : p.1 = k' := by
        have r1 := r.1
        rw [h, hk] at r1
        exact (Option.some.inj r1).symm
      exact .inr ⟨q.2, p.2, by simp [dGet, h], by simp [valueAt, e], r.2⟩
    · have e : ¬ p.1 = k' := fun e => h (keyM_inj (by rw [r.1, e]) hk)
      rcases PM.get hk t with ⟨h1, h2⟩ | ⟨d, u, h1, h2, h3⟩
      · exact .inl ⟨by simpa [dGet, h] using h1, by simpa [valueAt, e] using h2⟩
      · exact .inr ⟨d, u, by simpa [dGet, h] using h1, by simpa [valueAt, e] using h2, h3⟩
theorem PN.get {G : Gx} {H : Hp} {β : List Pl} {k : D} {k' : NestedKey} (hk : keyN k = some k') : ∀ {ks : List (NestedKey × Addr × Value)} {kvs : List (D × D)}, PN G H β ks kvs →
    (dGet kvs k = none ∧ atKey ks k' = none) ∨ ∃ d b u, dGet kvs k = some d ∧ atKey ks k' = some (b, u) ∧ RValue G H β u d
  | _, _, .nil => .inl ⟨rfl, rfl⟩
  | _, _, .cons (a := p) (b := q) r t => by
    by_cases h : q.1 = k
    · have e : p.1 = k' := by
        have r1 := r.1
        rw [h, hk] at r1
        exact (Option.some.inj r1).symm
      exact .inr ⟨q.2, p.2.1, p.2.2, by simp [dGet, h], by simp [atKey, e], r.2.2.2⟩
    · have e : ¬ p.1 = k' := fun e => h (keyN_inj _ _ _ (by rw [r.1, e]) hk)
      rcases PN.get hk t with ⟨h1, h2⟩ | ⟨d, b, u, h1, h2, h3⟩
      · exact .inl ⟨by simpa [dGet, h] using h1, by simpa [atKey, e] using h2⟩
      · exact .inr ⟨d, b, u, by simpa [dGet, h] using h1, by simpa [atKey, e] using h2, h3⟩
/-- stores -/
theorem PM.map {G : Gx} {H : Hp} {β : List Pl} {k v : D} {k' : L2.Key} {u : Value} (hk : keyM k = some k') (ru : RValue G H β u v) : ∀ {ks : List (L2.Key × Value)} {kvs : List (D × D)}, PM G H β ks kvs →
    PM G H β (ks.map fun kv => if kv.1 = k' then (kv.1, u) else kv) (kvs.map fun p => if p.1 = k then (p.1, v) else p)
  | _, _, .nil => .nil
  | _, _, .cons (a := p) (b := q) r t => by
    simp only [List.map_cons]
    refine .cons ?_ (PM.map hk ru t)
    by_cases h : q.1 = k
    · have e : p.1 = k' := by
        have r1 := r.1
        rw [h, hk] at r1
        exact (Option.some.inj r1).symm
      rw [if_pos h, if_pos e]
      exact ⟨r.1, ru⟩
    · have e : ¬ p.1 = k' := fun e => h (keyM_inj (by rw [r.1, e]) hk)
      rw [if_neg h, if_neg e]
      exact r
theorem PM.snoc {G : Gx} {H : Hp} {β : List Pl} {k v : D} {k' : L2.Key} {u : Value} (hk : keyM k = some k') (ru : RValue G H β u v) : ∀ {ks : List (L2.Key × Value)} {kvs : List (D × D)}, PM G H β ks kvs → PM G H β (ks ++ [(k', u)]) (kvs ++ [(k, v)])
  | _, _, .nil => .cons ⟨hk, ru⟩ .nil
  | _, _, .cons r t => .cons r (PM.snoc hk ru t)
theorem any_valueAt {K : Type} [DecidableEq K] (ks : List (K × Value)) (k : K) : (ks.any fun kv => decide (kv.1 = k)) = (valueAt ks k).isSome := by
  induction ks with
  | nil => rfl
  | cons p r ih =>
    by_cases h : p.1 = k
    · simp [valueAt, h]
    · simp only [List.any_cons, h, decide_false, Bool.false_or, ih]
      simp [valueAt, h]
theorem PM.put {G : Gx} {H : Hp} {β : List Pl} {k v : D} {k' : L2.Key} {u : Value} (hk : keyM k = some k') (ru : RValue G H β u v) {ks : List (L2.Key × Value)} {kvs : List (D × D)} (h : PM G H β ks kvs) : PM G H β (stored ks k' u) (dPut kvs k v) := by
  unfold stored dPut
  rw [any_valueAt]
  rcases h.get hk with ⟨h1, h2⟩ | ⟨d, u', h1, h2, _⟩
  · rw [h1, h2]; exact PM.snoc hk ru h
  · rw [h1, h2]; exact PM.map hk ru h
theorem PN.map {G : Gx} {H : Hp} {β : List Pl} {k v : D} {k' : NestedKey} {u : Value} (hk : keyN k = some k') (ru : RValue G H β u v) : ∀ {ks : List (NestedKey × Addr × Value)} {kvs : List (D × D)}, PN G H β ks kvs →
    PN G H β (ks.map (putAt k' u)) (kvs.map fun p => if p.1 = k then (p.1, v) else p)
  | _, _, .nil => .nil
  | _, _, .cons (a := p) (b := q) r t => by
    simp only [List.map_cons]
    refine .cons ?_ (PN.map hk ru t)
    by_cases h : q.1 = k
    · have e : p.1 = k' := by
        have r1 := r.1
        rw [h, hk] at r1
        exact (Option.some.inj r1).symm
      rw [if_pos h, putAt, if_pos e]
      exact ⟨r.1, r.2.1, r.2.2.1, ru⟩
    · have e : ¬ p.1 = k' := fun e => h (keyN_inj _ _ _ (by rw [r.1, e]) hk)
      rw [if_neg h, putAt, if_neg e]
      exact r
theorem PN.snoc {G : Gx} {H : Hp} {β : List Pl} {k v : D} {k' : NestedKey} {b : Addr} {u : Value} (hk : keyN k = some k') (hd : k'.depth ≤ 8) (rb : RV G H β (.ref b) k) (ru : RValue G H β u v) : ∀ {ks : List (NestedKey × Addr × Value)} {kvs : List (D × D)}, PN G H β ks kvs → PN G H β (ks ++ [(k', b, u)]) (kvs ++ [(k, v)])
  | _, _, .nil => .cons ⟨hk, hd, rb, ru⟩ .nil
  | _, _, .cons r t => .cons r (PN.snoc hk hd rb ru t)
theorem PN.put {G : Gx} {H : Hp} {β : List Pl} {k v : D} {k' : NestedKey} {b : Addr} {u : Value} (hk : keyN k = some k') (hd : k'.depth ≤ 8) (rb : RV G H β (.ref b) k) (ru : RValue G H β u v) {ks : List (NestedKey × Addr × Value)} {kvs : List (D × D)} (h : PN G H β ks kvs) : PN G H β (storedH ks k' b u) (dPut kvs k v) := by
  unfold storedH dPut
  rcases h.get hk with ⟨h1, h2⟩ | ⟨d, b', u', h1, h2, _⟩
  · rw [h1, h2]; exact PN.snoc hk hd rb ru h
  · rw [h1, h2]; exact PN.map hk ru h
theorem length_dPut (kvs : List (D × D)) (k v : D) : (dPut kvs k v).length ≤ kvs.length + 1 := by
  unfold dPut
  split <;> simp
section
variable {G : Gx} {X : Cx} {pins : List (Addr × Obj)} {σ : L2.St} {H : Hp} {s : Shared} {β : List Pl} {a : Addr} {es : Array DictEntry} {ep : Nat} {kvs : List (D × D)} {A : Around} {E : Value → Shared → Prop}
theorem nroom {A : Around} (hu : A.units + 64 < cLine) : (nestedKind X.prog X.w).room A.in1 := by
  show A.units + 1 + 8 < cLine
  omega
theorem nroom0 {A : Around} (hu : A.units + 64 < cLine) : (nestedKind X.prog X.w).room A := by
  show A.units + 8 < cLine
  omega
/-- what the dict has at a key -/
inductive DAt (G : Gx) (H : Hp) (β : List Pl) (kvs : List (D × D)) (k : D) : Prop
  | mk
theorem kind_cases {k : D} (h : kindOk kvs k = true) : (∃ k', keyM k = some k' ∧ kvs.all (fun p => (keyM p.1).isSome) = true) ∨ ∃ k', keyN k = some k' ∧ k'.depth ≤ 8 ∧ (∃ xs, k = .tup xs) ∧ kvs.all (fun p => (keyT p.1).isSome) = true := by
  unfold kindOk at h
  rw [Bool.or_eq_true, Bool.and_eq_true, Bool.and_eq_true] at h
  rcases h with ⟨h1, h2⟩ | ⟨h1, h2⟩
  · obtain ⟨k', e⟩ := Option.isSome_iff_exists.mp h1
    exact .inl ⟨k', e, h2⟩
  · obtain ⟨k', e⟩ := Option.isSome_iff_exists.mp h1
    obtain ⟨e1, e2, e3⟩ := keyT_N e
    exact .inr ⟨k', e1, e2, e3, h2⟩
variable {k : D} {y : V} {u : Value}
/-- y in d -/
theorem din_ok {Q : Value → Shared → Prop} (on : On G X) (hu : A.units + 64 < cLine) (I : L2.Inv X pins σ H s) (hs : (a == sysModules) = false) (h : H a = some (dictO a es ep)) (e : EntM G H β es kvs ∨ EntN G H β es kvs) (hk : kindOk kvs k = true) (ry : RV G H β y k) (ru : RelV y u)
    (hq : ∀ s', L2.Inv X pins σ H s' → Q (.bool (dGet kvs k).isSome) s') : wpAny (model X.prog X.w) A (compareOp .In u (.ref a)) Q E s := by
  rcases kind_cases hk with ⟨k', e1, e2⟩ | ⟨k', e1, e2, ⟨xs, e3⟩, e4⟩
  · obtain ⟨ks, dd, pm⟩ := dict_M on I h e e2
    have yk := keyM_kV e1 ry
    subst yk
    refine wpAny_in_of (kV_is ru) hs dd.mapOf ?_
    have := hq _ (I.tok (s.toks + 1))
    rcases pm.get e1 with ⟨h1, h2⟩ | ⟨d, w, h1, h2, _⟩
    · rw [h1] at this; rw [h2]; exact this
    · rw [h1] at this; rw [h2]; exact this
  · obtain ⟨ks, dd, pn⟩ := dict_N on I h e e4
    subst e3
    have ry' := ry
    simp only [RV] at ry'
    obtain ⟨b, ys, rfl, _, _⟩ := ry'
    cases ru
    refine wpAny_in_heap (nroom hu) ⟨nested_is on I _ _ _ _ e1 ry rfl, e2⟩ hs dd ?_
    have := hq _ (I.tok (s.toks + (nestedKind X.prog X.w).draws k'))
    rcases pn.get e1 with ⟨h1, h2⟩ | ⟨d, b', w, h1, h2, _⟩
    · rw [h1] at this; rw [h2]; exact this
    · rw [h1] at this; rw [h2]; exact this
theorem dnotin_ok {Q : Value → Shared → Prop} (on : On G X) (hu : A.units + 64 < cLine) (I : L2.Inv X pins σ H s) (hs : (a == sysModules) = false) (h : H a = some (dictO a es ep)) (e : EntM G H β es kvs ∨ EntN G H β es kvs) (hk : kindOk kvs k = true) (ry : RV G H β y k) (ru : RelV y u)
    (hq : ∀ s', L2.Inv X pins σ H s' → Q (.bool (!(dGet kvs k).isSome)) s') : wpAny (model X.prog X.w) A (compareOp .NotIn u (.ref a)) Q E s := by
  rcases kind_cases hk with ⟨k', e1, e2⟩ | ⟨k', e1, e2, ⟨xs, e3⟩, e4⟩
  · obtain ⟨ks, dd, pm⟩ := dict_M on I h e e2
    have yk := keyM_kV e1 ry
    subst yk
    refine wpAny_notIn_of (kV_is ru) hs dd.mapOf ?_
    have := hq _ (I.tok (s.toks + 1))
    rcases pm.get e1 with ⟨h1, h2⟩ | ⟨d, w, h1, h2, _⟩
    · rw [h1] at this; rw [h2]; exact this
    · rw [h1] at this; rw [h2]; exact this
  · obtain ⟨ks, dd, pn⟩ := dict_N on I h e e4
    subst e3
    have ry' := ry
    simp only [RV] at ry'
    obtain ⟨b, ys, rfl, _, _⟩ := ry'
    cases ru
    refine wpAny_notIn_heap (nroom hu) ⟨nested_is on I _ _ _ _ e1 ry rfl, e2⟩ hs dd ?_
    have := hq _ (I.tok (s.toks + (nestedKind X.prog X.w).draws k'))
    rcases pn.get e1 with ⟨h1, h2⟩ | ⟨d, b', w, h1, h2, _⟩
    · rw [h1] at this; rw [h2]; exact this
    · rw [h1] at this; rw [h2]; exact this
/-- d[y], there -/
theorem dget_ok {d : D} {Q : Value → Shared → Prop} (on : On G X) (hu : A.units + 64 < cLine) (I : L2.Inv X pins σ H s) (h : H a = some (dictO a es ep)) (e : EntM G H β es kvs ∨ EntN G H β es kvs) (hk : kindOk kvs k = true) (ry : RV G H β y k) (ru : RelV y u) (hd : dGet kvs k = some d)
    (hq : ∀ z w s', L2.Inv X pins σ H s' → RelV z w → RV G H β z d → Q w s') : wpAny (model X.prog X.w) A (getItem (.ref a) u) Q E s := by
  rcases kind_cases hk with ⟨k', e1, e2⟩ | ⟨k', e1, e2, ⟨xs, e3⟩, e4⟩
  · obtain ⟨ks, dd, pm⟩ := dict_M on I h e e2
    have yk := keyM_kV e1 ry
    subst yk
    rcases pm.get e1 with ⟨h1, h2⟩ | ⟨d', w, h1, h2, z, h3, h4⟩
    · rw [h1] at hd; cases hd
    · rw [h1] at hd; cases hd
      exact wpAny_getItem_of (kV_is ru) dd.mapOf h2 (hq z w _ (I.tok _) h3 h4)
  · obtain ⟨ks, dd, pn⟩ := dict_N on I h e e4
    subst e3
    have ry' := ry
    simp only [RV] at ry'
    obtain ⟨b, ys, rfl, _, _⟩ := ry'
    cases ru
    rcases pn.get e1 with ⟨h1, h2⟩ | ⟨d', b', w, h1, h2, z, h3, h4⟩
    · rw [h1] at hd; cases hd
    · rw [h1] at hd; cases hd
      exact wpAny_getItem_heap (nroom hu) ⟨nested_is on I _ _ _ _ e1 ry rfl, e2⟩ dd h2 (hq z w _ (I.tok _) h3 h4)
/-- d.get(y, x) -/
theorem dget2_ok {x : D} {xv : V} {xu : Value} {Q : Value → Shared → Prop} (on : On G X) (hu : A.units + 64 < cLine) (I : L2.Inv X pins σ H s) (hs : (a == sysModules) = false) (h : H a = some (dictO a es ep)) (e : EntM G H β es kvs ∨ EntN G H β es kvs) (hk : kindOk kvs k = true) (ry : RV G H β y k) (ru : RelV y u)
    (rx : RV G H β xv x) (rxu : RelV xv xu) (hq : ∀ z w s', L2.Inv X pins σ H s' → RelV z w → RV G H β z ((dGet kvs k).getD x) → Q w s') : wpAny (model X.prog X.w) A (call (.builtin "dict.get") [.ref a, u, xu]) Q E s := by
  rcases kind_cases hk with ⟨k', e1, e2⟩ | ⟨k', e1, e2, ⟨xs, e3⟩, e4⟩
  · obtain ⟨ks, dd, pm⟩ := dict_M on I h e e2
    have yk := keyM_kV e1 ry
    subst yk
    rcases pm.get e1 with ⟨h1, h2⟩ | ⟨d', w, h1, h2, z, h3, h4⟩
    · refine call_meetsIn PySem.F.slot_dict_get dd.typeIs PySem.F.entry_dict_get (PySem.F.args_dict_get_3 _ _ _) (meets_dict_get_default (mixKind X.prog X.w) a (kV_is ru) hs xu) ⟨_, dd.mapOf, ?_⟩
      rw [h2]
      exact hq xv xu _ (I.tok _) rxu (by rw [h1]; exact rx)
    · refine call_meetsIn PySem.F.slot_dict_get dd.typeIs PySem.F.entry_dict_get (PySem.F.args_dict_get_3 _ _ _) (meets_dict_get_default (mixKind X.prog X.w) a (kV_is ru) hs xu) ⟨_, dd.mapOf, ?_⟩
      rw [h2]
      exact hq z w _ (I.tok _) h3 (by rw [h1]; exact h4)
  · obtain ⟨ks, dd, pn⟩ := dict_N on I h e e4
    subst e3
    have ry' := ry
    simp only [RV] at ry'
    obtain ⟨b, ys, rfl, _, _⟩ := ry'
    cases ru
    refine call_meetsIn PySem.F.slot_dict_get dd.typeIs PySem.F.entry_dict_get (PySem.F.args_dict_get_3 _ _ _) (meetsH_dict_get_default (nestedKind X.prog X.w) a b hs xu) ⟨nroom hu, k', ks, ⟨nested_is on I _ _ _ _ e1 ry rfl, e2⟩, dd, ?_⟩
    rcases pn.get e1 with ⟨h1, h2⟩ | ⟨d', b', w, h1, h2, z, h3, h4⟩
    · rw [h2]
      exact hq xv xu _ (I.tok _) rxu (by rw [h1]; exact rx)
    · rw [h2]
      exact hq z w _ (I.tok _) h3 (by rw [h1]; exact h4)
/-- the entries behind a store -/
theorem stored_M {m : Mem} {l : Nat} {h' : Heap} {t' : Nat} {ks : List (L2.Key × Value)} {kvs' : List (D × D)} (on : On G X) (I : L2.Inv X pins σ H s) (rp : Rp G H β m) (ha : β[l]? = some (a, false)) (hs : (a == sysModules) = false) (h : H a = some (dictO a es ep)) (hz : kvs'.length ≤ sizeLine)
    (dd : h'.DictOf (mixKind X.prog X.w) a ks) (sb : Heap.SameBut a s.heap h') (pm : PM G H β ks kvs') :
    ∃ es' ep', L2.Inv X pins σ (upd H a (dictO a es' ep')) { s with heap := h', toks := t' } ∧ Rp G (upd H a (dictO a es' ep')) β (m.set l (.dict kvs' false)) := by
  obtain ⟨o, es', ep', g1, g2, g3, g4, g5, g6⟩ := dd
  have x := Ext.write (H := H) (ob := dictO a es' ep') ha
  refine ⟨es', ep', d_write I (by rw [h]; exact True.intro) sb ⟨o, g1⟩ (dictO_new ⟨o, g1, g2, g3⟩), rp.write ha rfl ⟨hs, hz, es', ep', upd_same, .inl ⟨ks, ?_, ?_, g6, ?_⟩⟩⟩
  · rw [← on.P, ← on.w]; exact g4
  · rw [← on.P, ← on.w]; exact g5
  · exact Paired.mapP pm fun p q z => ⟨z.1, z.2.mono (x.tl rp) (BL.refl _)⟩
theorem stored_N {m : Mem} {l : Nat} {h' : Heap} {t' : Nat} {xs : List (NestedKey × Addr × Value)} {kvs' : List (D × D)} (on : On G X) (I : L2.Inv X pins σ H s) (rp : Rp G H β m) (ha : β[l]? = some (a, false)) (hs : (a == sysModules) = false) (h : H a = some (dictO a es ep)) (hz : kvs'.length ≤ sizeLine)
    (dd : h'.DictOfH (nestedKind X.prog X.w) a xs) (sb : Heap.SameBut a s.heap h') (pn : PN G H β xs kvs') :
    ∃ es' ep', L2.Inv X pins σ (upd H a (dictO a es' ep')) { s with heap := h', toks := t' } ∧ Rp G (upd H a (dictO a es' ep')) β (m.set l (.dict kvs' false)) := by
  obtain ⟨o, es', ep', g1, g2, g3, g4, _, g6⟩ := dd
  have x := Ext.write (H := H) (ob := dictO a es' ep') ha
  refine ⟨es', ep', d_write I (by rw [h]; exact True.intro) sb ⟨o, g1⟩ (dictO_new ⟨o, g1, g2, g3⟩), rp.write ha rfl ⟨hs, hz, es', ep', upd_same, .inr ⟨xs, ?_, g6, ?_⟩⟩⟩
  · rw [← on.P, ← on.w]; exact g4
  · exact Paired.mapP pn fun p q z => ⟨z.1, z.2.1, RV.mono (x.tl rp) (BL.refl _) _ _ z.2.2.1, z.2.2.2.mono (x.tl rp) (BL.refl _)⟩
/-- d[y] = v -/
theorem dput_ok {m : Mem} {l : Nat} {d : D} {dv : V} {du : Value} {Q : Unit → Shared → Prop} (on : On G X) (hu : A.units + 64 < cLine) (I : L2.Inv X pins σ H s) (rp : Rp G H β m) (ha : β[l]? = some (a, false)) (hs : (a == sysModules) = false) (hl : kvs.length ≤ sizeLine) (hz : (dPut kvs k d).length ≤ sizeLine) (h : H a = some (dictO a es ep)) (e : EntM G H β es kvs ∨ EntN G H β es kvs) (hk : kindOk kvs k = true) (ry : RV G H β y k) (ru : RelV y u)
    (rd : RV G H β dv d) (rdu : RelV dv du) (hq : ∀ es' ep' s', L2.Inv X pins σ (upd H a (dictO a es' ep')) s' → Rp G (upd H a (dictO a es' ep')) β (m.set l (.dict (dPut kvs k d) false)) → Q () s') : wpAny (model X.prog X.w) A (setItem (.ref a) u du) Q E s := by
  rcases kind_cases hk with ⟨k', e1, e2⟩ | ⟨k', e1, e2, ⟨xs, e3⟩, e4⟩
  · obtain ⟨ks, dd, pm⟩ := dict_M on I h e e2
    have yk := keyM_kV e1 ry
    subst yk
    refine wpAny_setItem_pairs (hsz := by rw [Paired.length pm]; exact hl) (kV_is ru) dd fun h' dd' hsb => ?_
    obtain ⟨es', ep', I', rp'⟩ := stored_M (t' := s.toks + 1) on I rp ha hs h hz dd' hsb (pm.put e1 ⟨dv, rdu, rd⟩)
    exact hq es' ep' _ I' rp'
  · obtain ⟨ks, dd, pn⟩ := dict_N on I h e e4
    subst e3
    have ry' := ry
    simp only [RV] at ry'
    obtain ⟨b, ys, rfl, _, _⟩ := ry'
    cases ru
    refine wpAny_setItem_heap (hsz := by rw [Paired.length pn]; exact hl) (nroom hu) ⟨nested_is on I _ _ _ _ e1 ry rfl, e2⟩ dd fun h' dd' hsb => ?_
    obtain ⟨es', ep', I', rp'⟩ := stored_N (t' := s.toks + (nestedKind X.prog X.w).draws k') on I rp ha hs h hz dd' hsb (pn.put e1 e2 ry ⟨dv, rdu, rd⟩)
    exact hq es' ep' _ I' rp'
end
end Mn
set_option Elab.async false
set_option linter.all false
set_option maxRecDepth 100000
set_option maxHeartbeats 1000000
/-! Mn6: further operators; readings of expressions, tests, arguments. -/
namespace Mn
open PySem L2 PySem.Spec PyProof.Rows
section
variable {G : Gx} {X : Cx}
theorem opLt_ok (on : On G X) (hu : X.A.units + 64 < cLine) : OpR X (compareOp .Lt) (rO2 G opLt) := by
  intro pins s σ H x y v u Q I rx ry ⟨β, m, a, b, rp, ra, rb, h⟩
  unfold opLt at h
  split at h
  · simp only [RV] at ra rb; subst ra rb
    exact op_lt pins s σ H _ _ v u Q I rx ry ⟨_, _, rfl, rfl, Post.bl h rp⟩
  · simp only [RV] at ra rb; subst ra rb
    exact op_lt_str pins s σ H _ _ v u Q I rx ry ⟨_, _, rfl, rfl, Post.bl h rp⟩
  · rename_i xs ys
    unfold ltT at h
    split at h
    · rename_i c
      have e1 := pure_rd (m := m) 12 (.tup xs) c.1
      have e2 := pure_rd (m := m) 12 (.tup ys) c.2.1
      have d1 := on.K ▸ rd_dp rp _ _ _ _ e1 ra
      have d2 := on.K ▸ rd_dp rp _ _ _ _ e2 rb
      obtain ⟨as, r1⟩ := Dp.reads I _ _ _ d1 rx
      obtain ⟨bs, r2⟩ := Dp.reads I _ _ _ d2 ry
      have k1 := (rd_ok 12 _ _ e1).2
      refine comp_run _ _ X.A s v u as bs r1 r2 (rd_ok 12 _ _ e1).1 (rd_ok 12 _ _ e2).1 c.2.2 (by omega) X.prog X.w _ _ ?_
      exact ⟨.bl _, H, I, rfl, Post.bl h rp⟩
    · exact h.elim
  · exact h.elim
theorem opLe_ok (on : On G X) : OpR X (compareOp .LtE) (rO2 G opLe) := by
  intro pins s σ H x y v u Q I rx ry ⟨β, m, a, b, rp, ra, rb, h⟩
  unfold opLe at h
  split at h
  · simp only [RV] at ra rb; subst ra rb
    exact op_le pins s σ H _ _ v u Q I rx ry ⟨_, _, rfl, rfl, Post.bl h rp⟩
  · exact h.elim
theorem opGt_ok (on : On G X) : OpR X (compareOp .Gt) (rO2 G opGt) := by
  intro pins s σ H x y v u Q I rx ry ⟨β, m, a, b, rp, ra, rb, h⟩
  unfold opGt at h
  split at h
  · simp only [RV] at ra rb; subst ra rb
    exact op_gt pins s σ H _ _ v u Q I rx ry ⟨_, _, rfl, rfl, Post.bl h rp⟩
  · exact h.elim
theorem opGe_ok (on : On G X) : OpR X (compareOp .GtE) (rO2 G opGe) := by
  intro pins s σ H x y v u Q I rx ry ⟨β, m, a, b, rp, ra, rb, h⟩
  unfold opGe at h
  split at h
  · simp only [RV] at ra rb; subst ra rb
    exact op_ge pins s σ H _ _ v u Q I rx ry ⟨_, _, rfl, rfl, Post.bl h rp⟩
  · exact h.elim
theorem rv_non {H : Hp} {β : List Pl} {x : V} {d : D} (r : RV G H β x d) : decide (x = .non) = decide (d = .non) := by
  cases d <;> simp only [RV] at r
  · subst r; simp
  · subst r; simp
  · subst r; simp
  · subst r; simp
  · obtain ⟨a, xs, rfl, _⟩ := r; simp
  · obtain ⟨a, xs, rfl, _⟩ := r; simp
  · obtain ⟨a, f, rfl, _⟩ := r; simp
  · obtain ⟨a, rfl, _⟩ := r; simp
theorem opIs_ok (on : On G X) : OpR X (compareOp .Is) (rO2 G opIs) := by
  intro pins s σ H x y v u Q I rx ry ⟨β, m, a, b, rp, ra, rb, h⟩
  unfold opIs at h
  split at h
  · simp only [RV] at rb; subst rb
    exact op_isN pins s σ H _ _ v u Q I rx ry ⟨rfl, by rw [rv_non ra]; exact Post.bl h rp⟩
  · simp only [RV] at ra rb; subst ra rb
    exact op_isBl pins s σ H _ _ v u Q I rx ry ⟨_, _, rfl, rfl, Post.bl h rp⟩
  · exact h.elim
theorem opIsNot_ok (on : On G X) : OpR X (compareOp .IsNot) (rO2 G opIsNot) := by
  intro pins s σ H x y v u Q I rx ry ⟨β, m, a, b, rp, ra, rb, h⟩
  unfold opIsNot at h
  split at h
  · simp only [RV] at rb; subst rb
    exact op_notN pins s σ H _ _ v u Q I rx ry ⟨rfl, by rw [rv_non ra]; exact Post.bl h rp⟩
  · simp only [RV] at ra rb; subst ra rb
    exact op_notBl pins s σ H _ _ v u Q I rx ry ⟨_, _, rfl, rfl, Post.bl h rp⟩
  · exact h.elim
/-! ### in -/
theorem pures_mapM {m : Mem} {n : Nat} {ds : List D} (h : pureDs n ds = true) : ds.mapM (rd m n) = some (toPys ds) := pure_rds n ds h
theorem eqv_any {n : Nat} {a : D} (ha : pureD n a = true) : ∀ {k : Nat} {xs : List D}, pureDs k xs = true → (xs.any fun z => eqv z a) = ((toPys xs).any fun z => PyData.eqv z (toPy a))
  | k, [], _ => rfl
  | k, x :: xs, h => by
    have h' : pureD k x = true ∧ pureDs k xs = true := by simpa [pureDs] using h
    simp only [List.any_cons, toPys, eqv_py k n x a h'.1 ha, eqv_any ha h'.2]
inductive InP (m : Mem) (a c : D) (k : Bool) : Prop
  | str {t s : Str} {x : Nat} : c = .str t → a = .str s → s.cps.toList = [x] → k = decide (x ∈ t.cps.toList) → InP m a c k
  | dict {l : Nat} {kvs : List (D × D)} {lk : Bool} : c = .loc l → m[l]? = some (.dict kvs lk) → kindOk kvs a = true → k = (dGet kvs a).isSome → InP m a c k
  | list {l : Nat} {xs : List D} {x : PyData} {ys : List PyData} : c = .loc l → m[l]? = some (.lst xs) → rd m 12 a = some x → xs.mapM (rd m 11) = some ys → k = (ys.any fun z => PyData.eqv z x) → InP m a c k
  | tup {xs : List D} {x : PyData} {ys : List PyData} : c = .tup xs → rd m 12 a = some x → xs.mapM (rd m 11) = some ys → k = (ys.any fun z => PyData.eqv z x) → InP m a c k
theorem inM_p {m : Mem} {a c : D} {k : Bool} (h : inM m a c = some k) : InP m a c k := by
  unfold inM at h
  split at h
  · split at h
    · split at h
      · rename_i hx
        simp only [Option.some.injEq] at h
        exact .str rfl rfl hx h.symm
      · cases h
    · cases h
  · split at h
    · rename_i hm
      split at h
      · rename_i hk
        simp only [Option.some.injEq] at h
        exact .dict rfl hm hk h.symm
      · cases h
    · rename_i hm
      split at h
      · rename_i hc
        simp only [Option.some.injEq] at h
        exact .list rfl hm (pure_rd 12 a hc.1) (pures_mapM hc.2) (by rw [← h]; exact eqv_any hc.1 hc.2)
      · split at h
        · rename_i e1 e2
          simp only [Option.some.injEq] at h
          exact .list rfl hm e1 e2 h.symm
        · cases h
    · cases h
  · split at h
    · rename_i hc
      simp only [Option.some.injEq] at h
      exact .tup rfl (pure_rd 12 a hc.1) (pures_mapM hc.2) (by rw [← h]; exact eqv_any hc.1 hc.2)
    · cases h
  · cases h
theorem opIn_ok (on : On G X) (hu : X.A.units + 65 < cLine) : OpR X (compareOp .In) (rO2 G opIn) := by
  intro pins s σ H x y v u Q I rx ry ⟨β, m, a, b, rp, ra, rb, h⟩
  unfold opIn at h
  cases e : inM m a b with
  | none => rw [e] at h; exact h.elim
  | some k =>
    rw [e] at h
    have hb := Post.bl h rp
    cases inM_p e with
    | str e1 e2 e3 e4 =>
      rename_i t s' c
      subst e1 e2 e4
      simp only [RV] at ra rb; subst ra rb
      obtain ⟨⟨l⟩⟩ := s'
      simp only at e3
      subst e3
      exact op_in_sign pins s σ H _ _ v u Q I rx ry ⟨_, _, rfl, rfl, hb⟩
    | dict e1 e2 e3 e4 =>
      subst e1 e4
      obtain ⟨p, es, ep, rfl, _, hs, _, h2, h3⟩ := rp.dict e2 rb
      cases ry
      exact din_ok on (by omega) I hs h2 h3 e3 ra rx fun s' I' => ⟨.bl _, H, I', rfl, hb⟩
    | list e1 e2 e3 e4 e5 =>
      rename_i l xs x' ys
      subst e1 e5
      have r2 : rd m 12 (.loc l) = some (.list ys) := by simp [rd, e2, e4]
      exact op_inD hu pins s σ H _ _ v u Q I rx ry ⟨_, _, on.K ▸ rd_dp rp _ _ _ _ e3 ra, on.K ▸ rd_dp rp _ _ _ _ r2 rb, rd_shaped (by decide) e3, rd_shaped (by decide) r2, hb⟩
    | tup e1 e3 e4 e5 =>
      rename_i xs x' ys
      subst e1 e5
      have r2 : rd m 12 (.tup xs) = some (.tuple ys) := by
        simp only [rd, Option.map_eq_some_iff]
        exact ⟨_, e4, rfl⟩
      have d1 := on.K ▸ rd_dp rp _ _ _ _ e3 ra
      have d2 := on.K ▸ rd_dp rp _ _ _ _ r2 rb
      obtain ⟨as, r1⟩ := Dp.reads I _ _ _ d1 rx
      obtain ⟨bs, r3⟩ := Dp.reads I _ _ _ d2 ry
      exact SeqAt.in_tuple_reads r3 r1 (SeqAt.canLay_of_shaped (d := .tuple ys) (rd_shaped (by decide) r2)) (SeqAt.canLay_of_shaped (rd_shaped (by decide) e3)) (room_in_shaped (rd_shaped (by decide) e3) hu) ⟨.bl _, H, I, rfl, hb⟩
theorem opNotIn_ok (on : On G X) (hu : X.A.units + 65 < cLine) : OpR X (compareOp .NotIn) (rO2 G opNotIn) := by
  intro pins s σ H x y v u Q I rx ry ⟨β, m, a, b, rp, ra, rb, h⟩
  unfold opNotIn at h
  cases e : inM m a b with
  | none => rw [e] at h; exact h.elim
  | some k =>
    rw [e] at h
    have hb := Post.bl h rp
    cases inM_p e with
    | str e1 e2 e3 e4 =>
      rename_i t s' c
      subst e1 e2 e4
      simp only [RV] at ra rb; subst ra rb
      obtain ⟨⟨l⟩⟩ := s'
      simp only at e3
      subst e3
      exact op_notIn_sign pins s σ H _ _ v u Q I rx ry ⟨_, _, rfl, rfl, hb⟩
    | dict e1 e2 e3 e4 =>
      subst e1 e4
      obtain ⟨p, es, ep, rfl, _, hs, _, h2, h3⟩ := rp.dict e2 rb
      cases ry
      exact dnotin_ok on (by omega) I hs h2 h3 e3 ra rx fun s' I' => ⟨.bl _, H, I', rfl, hb⟩
    | list e1 e2 e3 e4 e5 =>
      rename_i l xs x' ys
      subst e1 e5
      have r2 : rd m 12 (.loc l) = some (.list ys) := by simp [rd, e2, e4]
      exact op_notInD hu pins s σ H _ _ v u Q I rx ry ⟨_, _, on.K ▸ rd_dp rp _ _ _ _ e3 ra, on.K ▸ rd_dp rp _ _ _ _ r2 rb, rd_shaped (by decide) e3, rd_shaped (by decide) r2, hb⟩
    | tup e1 e3 e4 e5 =>
      rename_i xs x' ys
      subst e1 e5
      have r2 : rd m 12 (.tup xs) = some (.tuple ys) := by
        simp only [rd, Option.map_eq_some_iff]
        exact ⟨_, e4, rfl⟩
      have d1 := on.K ▸ rd_dp rp _ _ _ _ e3 ra
      have d2 := on.K ▸ rd_dp rp _ _ _ _ r2 rb
      obtain ⟨as, r1⟩ := Dp.reads I _ _ _ d1 rx
      obtain ⟨bs, r3⟩ := Dp.reads I _ _ _ d2 ry
      exact SeqAt.notIn_tuple_reads r3 r1 (SeqAt.canLay_of_shaped (d := .tuple ys) (rd_shaped (by decide) r2)) (SeqAt.canLay_of_shaped (rd_shaped (by decide) e3)) (room_in_shaped (rd_shaped (by decide) e3) hu) ⟨.bl _, H, I, rfl, hb⟩
end
/-! ### readings -/
theorem PE.imp {X : Cx} {e : Expr} {t t' : TE} (h : PE X e t) (f : ∀ σ H Q, t' σ H Q → t σ H Q) : PE X e t' := ⟨fun pins s σ H Q I x => h.run pins s σ H Q I (f σ H Q x)⟩
theorem PT.imp {X : Cx} {e : Expr} {t t' : TT} (h : PT X e t) (f : ∀ σ H Q, t' σ H Q → t σ H Q) : PT X e t' := ⟨fun pins s σ H Q I x => h.run pins s σ H Q I (f σ H Q x)⟩
theorem PW.imp {X : Cx} {e : Expr} {t t' : TT} (h : PW X e t) (f : ∀ σ H Q, t' σ H Q → t σ H Q) : PW X e t' := ⟨fun w pins s σ H Q I x => h.run w pins s σ H Q I (f σ H Q x)⟩
theorem PA.imp {X : Cx} {e : List Expr} {t t' : TA} (h : PA X e t) (f : ∀ σ H Q, t' σ H Q → t σ H Q) : PA X e t' := ⟨fun p pins s σ H Q I x => h.run p pins s σ H Q I (f σ H Q x)⟩
theorem PS.imp {X : Cx} {e : Stmt} {t t' : TS} (h : PS X e t) (f : ∀ D σ H, t' D σ H → t D σ H) : PS X e t' := ⟨fun pins s σ H D I x => h.run pins s σ H D I (f D σ H x)⟩
theorem PSs.imp {X : Cx} {e : List Stmt} {t t' : TS} (h : PSs X e t) (f : ∀ D σ H, t' D σ H → t D σ H) : PSs X e t' := ⟨fun pins s σ H D I x => h.run pins s σ H D I (f D σ H x)⟩
/-- the reading of a test -/
def tT (G : Gx) (W : WX) (fe : FE) (d : DenT) : TT := fun σ H Q => ∃ β m ρ, Rp G H β m ∧ RS G H β σ ρ ∧ GoodO G (fun c d H' => W c d σ H') H β (fun b _ H' _ => Q b H') (d fe ρ m)
/-- the reading of arguments -/
def tA (G : Gx) (W : WX) (fe : FE) (d : DenA) : TA := fun σ H Q => ∃ β m ρ, Rp G H β m ∧ RS G H β σ ρ ∧ GoodO G (fun c d H' => W c d σ H') H β (fun ds _ H' β' => ∀ vs, RVs G H' β' vs ds → Q vs H') (d fe ρ m)
def xVar (i : Nat) : Den := fun _ ρ m => match ρ[i]? with
  | some (some v) => .ok v m
  | _ => .bad
def xLit (d : D) : Den := fun _ _ m => .ok d m
def xBin (f : Op2) (a b : Den) : Den := fun fe ρ m => (a fe ρ m).bind fun x m1 => (b fe ρ m1).bind fun y m2 => .ofO (f x y m2)
def xNeg (a : Den) : Den := fun fe ρ m => (a fe ρ m).bind fun x m1 => match x with
  | .int i => .ok (.int (-i)) m1
  | _ => .bad
def xGc (a : Den) : Den := fun fe ρ m => gcO m (a fe ρ m)
/-- a value's truth -/
def truth (m : Mem) : D → Option Bool
  | .non => some false
  | .bl b => some b
  | .int i => some (i != 0)
  | .str s => if s.length ≤ sizeLine then some ((s.length : Int) != 0) else none
  | .tup xs => some (!xs.isEmpty)
  | .seq xs => some (!xs.isEmpty)
  | .loc l => match m[l]? with
    | some (.lst xs) => some (!xs.isEmpty)
    | _ => none
  | .fn _ => none
def tVal (a : Den) : DenT := fun fe ρ m => (a fe ρ m).bind fun x m1 => match truth m1 x with
  | some b => .ok b m1
  | none => .bad
def tNt (a : DenT) : DenT := fun fe ρ m => (a fe ρ m).bind fun b m1 => .ok (!b) m1
def tAn (a b : DenT) : DenT := fun fe ρ m => (a fe ρ m).bind fun x m1 => if x = true then b fe ρ m1 else .ok false m1
def tOo (a b : DenT) : DenT := fun fe ρ m => (a fe ρ m).bind fun x m1 => if x = true then .ok true m1 else b fe ρ m1
def tGc (a : DenT) : DenT := fun fe ρ m => gcB m (a fe ρ m)
/-- and, or as values: the first one a truth value -/
def xAnd (a b : Den) : Den := fun fe ρ m => (a fe ρ m).bind fun x m1 => match x with
  | .bl true => b fe ρ m1
  | .bl false => .ok (.bl false) m1
  | _ => .bad
def xOr (a b : Den) : Den := fun fe ρ m => (a fe ρ m).bind fun x m1 => match x with
  | .bl false => b fe ρ m1
  | .bl true => .ok (.bl true) m1
  | _ => .bad
def xNot (a : Den) : Den := fun fe ρ m => (a fe ρ m).bind fun x m1 => match x with
  | .bl b => .ok (.bl (!b)) m1
  | _ => .bad
def xIf (t : DenT) (a b : Den) : Den := fun fe ρ m => (t fe ρ m).bind fun x m1 => if x = true then a fe ρ m1 else b fe ρ m1
def aNil : DenA := fun _ _ m => .ok [] m
def aCons (a : Den) (r : DenA) : DenA := fun fe ρ m => (a fe ρ m).bind fun x m1 => (r fe ρ m1).bind fun xs m2 => .ok (x :: xs) m2
def xTup (a : DenA) : Den := fun fe ρ m => (a fe ρ m).bind fun xs m1 => if xs.length ≤ sizeLine then .ok (.tup xs) m1 else .bad
def xLst (a : DenA) : Den := fun fe ρ m => (a fe ρ m).bind fun xs m1 => if xs.length ≤ sizeLine then .ok (.loc m1.length) (m1 ++ [.lst xs]) else .bad
/-- a chain of two comparisons -/
def xChain (f g : Op2) (a b c : Den) : Den := fun fe ρ m => (a fe ρ m).bind fun x m1 => (b fe ρ m1).bind fun y m2 => (Out.ofO (f x y m2)).bind fun z m3 => match z with
  | .bl true => (c fe ρ m3).bind fun w m4 => .ofO (g y w m4)
  | .bl false => .ok (.bl false) m3
  | _ => .bad
section
variable {G : Gx} {X : Cx} {W : WX} {fe : FE} {a b c : Expr} {da db dc : Den} {pos : Pos}
theorem GoodO.e {W : XK} {H : Hp} {β : List Pl} {Q : VK} {r : Out D} (h : GoodO G W H β (fun v _ H' β' => ∀ u, RV G H' β' u v → Q u H') r) : GoodE G W H β Q r := GoodE.iff.mpr h
theorem pv_ok {i : Nat} {x : Str} (h : PE X (.Name x pos) (tVar i)) : PE X (.Name x pos) (tE G W fe (xVar i)) := PE.imp h fun σ H Q ⟨β, m, ρ, rp, rs, g⟩ => by
  unfold xVar at g
  split at g
  · rename_i d e
    obtain ⟨v, e1, r⟩ := rs.at_ i d e
    exact ⟨v, e1, Post.same g rp r⟩
  · exact g.elim
theorem lit_ok {v : V} {d : D} (hd : ∀ H β, RV G H β v d) (h : PE X a (tC v)) : PE X a (tE G W fe (xLit d)) := PE.imp h fun σ H Q ⟨β, m, ρ, rp, rs, g⟩ => Post.same g rp (hd H β)
/-- two expressions, then an operation -/
theorem bin_red {f : Op2} {r : R2} (hr : ∀ x y H Q, rO2 G f x y H Q → r x y H Q) {σ : L2.St} {H : Hp} {Q : VK} (h : tE G W fe (xBin f da db) σ H Q) : tOp r (tE G W fe da) (tE G W fe db) σ H Q := by
  obtain ⟨β, m, ρ, rp, rs, g⟩ := h
  refine ⟨β, m, ρ, rp, rs, (GoodO.mono (GoodO.bind (GoodE.iff.mp g)) fun x m1 H1 β1 e1 rp1 g1 u ru => ?_).e⟩
  refine ⟨β1, m1, ρ, rp1, rs.ext rp e1, (GoodO.mono (GoodO.bind g1) fun y m2 H2 β2 e2 rp2 g2 w rw' => ?_).e⟩
  exact hr _ _ _ _ ⟨β2, m2, x, y, rp2, RV.mono (e2.tl rp1) e2.bl _ _ ru, rw', GoodE.ofO (g2.e)⟩
theorem xbin_ok {op : Operator} {f : Op2} (ho : OpR X (binaryOp op) (rO2 G f)) (ha : PE X a (tE G W fe da)) (hb : PE X b (tE G W fe db)) : PE X (.BinOp a op b pos) (tE G W fe (xBin f da db)) :=
  PE.imp (pe_op ho ha hb) fun _ _ _ h => bin_red (fun _ _ _ _ x => x) h
theorem xcmp_ok {op : CmpOp} {f : Op2} (ho : OpR X (compareOp op) (rO2 G f)) (ha : PE X a (tE G W fe da)) (hb : PE X b (tE G W fe db)) (hm : behindInMarks op b = false) : PE X (.Compare a [op] [b] pos) (tE G W fe (xBin f da db)) :=
  PE.imp (pe_cmpR ho ha hb hm) fun _ _ _ h => bin_red (fun _ _ _ _ x => x) h
theorem xneg_ok (ha : PE X a (tE G W fe da)) : PE X (.UnaryOp .USub a pos) (tE G W fe (xNeg da)) := PE.imp (pe_un un_neg ha) fun σ H Q h => by
  obtain ⟨β, m, ρ, rp, rs, g⟩ := h
  refine ⟨β, m, ρ, rp, rs, (GoodO.mono (GoodO.bind (GoodE.iff.mp g)) fun x m1 H1 β1 e1 rp1 g1 u ru => ?_).e⟩
  cases x with
  | int i => simp only [RV] at ru; subst ru; exact ⟨i, rfl, Post.int (GoodE.iff.mpr g1) rp1⟩
  | _ => exact False.elim g1
theorem xgc_ok (ha : PE X a (tE G W fe da)) : PE X a (tE G W fe (xGc da)) := PE.imp ha fun σ H Q ⟨β, m, ρ, rp, rs, g⟩ => ⟨β, m, ρ, rp, rs, GoodE.gc rp g⟩
theorem tgc_ok {dt : DenT} (ha : PT X a (tT G W fe dt)) : PT X a (tT G W fe (tGc dt)) := PT.imp ha fun σ H Q ⟨β, m, ρ, rp, rs, g⟩ => ⟨β, m, ρ, rp, rs, GoodO.gcB rp g⟩
/-- a value's truth, as a test -/
theorem tval_ok (on : On G X) (ha : PE X a (tE G W fe da)) (he : ∀ whole, PySem.isTrue a X.env whole = (do let v ← whole; standAt a.pos; holding [v] (truthy v))) : PT X a (tT G W fe (tVal da)) := PT.imp (pt_truth ha he) fun σ H Q h => by
  obtain ⟨β, m, ρ, rp, rs, g⟩ := h
  refine ⟨β, m, ρ, rp, rs, (GoodO.mono (GoodO.bind g) fun x m1 H1 β1 e1 rp1 g1 u ru => ?_).e⟩
  have hk : X.K = G.K := on.K
  cases e : truth m1 x with
  | none => rw [e] at g1; exact False.elim g1
  | some k =>
    rw [e] at g1
    refine ⟨k, ?_, g1 β1 H1 Ext.refl rp1⟩
    cases x with
    | non => simp only [RV] at ru; subst ru; simp only [truth, Option.some.injEq] at e; exact e.symm
    | bl b => simp only [RV] at ru; subst ru; simp only [truth, Option.some.injEq] at e; exact e.symm
    | int b => simp only [RV] at ru; subst ru; simp only [truth, Option.some.injEq] at e; exact e.symm
    | str b =>
      simp only [RV] at ru; subst ru; simp only [truth] at e
      split at e
      · rename_i c; simp only [Option.some.injEq] at e; exact ⟨c, e.symm⟩
      · cases e
    | tup ds =>
      simp only [RV] at ru; obtain ⟨p, xs, rfl, h1, h2⟩ := ru
      simp only [truth, Option.some.injEq] at e
      refine .inr (.inl ⟨xs, hk ▸ h1.sq, ?_⟩)
      have := h2.length
      rw [← e]
      cases xs <;> cases ds <;> simp_all
    | seq ds =>
      simp only [RV] at ru; obtain ⟨p, xs, rfl, h1, h2⟩ := ru
      simp only [truth, Option.some.injEq] at e
      refine .inl ⟨xs, hk ▸ h1.sq, ?_⟩
      have := h2.length
      rw [← e]
      cases xs <;> cases ds <;> simp_all
    | loc l =>
      simp only [truth] at e
      split at e
      · rename_i ds hm
        simp only [Option.some.injEq] at e
        obtain ⟨p, xs, rfl, _, h1, h2⟩ := rp1.lst hm ru
        refine .inl ⟨xs, SqL.of h1, ?_⟩
        have := h2.length
        rw [← e]
        cases xs <;> cases ds <;> simp_all
      · cases e
    | fn n => simp [truth] at e
theorem tnt_ok {dt : DenT} (ha : PT X a (tT G W fe dt)) : PT X (.UnaryOp .Not a pos) (tT G W fe (tNt dt)) := PT.imp (pt_not ha) fun σ H Q h => by
  obtain ⟨β, m, ρ, rp, rs, g⟩ := h
  exact ⟨β, m, ρ, rp, rs, GoodO.mono (GoodO.bind g) fun x m1 H1 β1 e1 rp1 g1 => g1 β1 H1 Ext.refl rp1⟩
variable {dt du : DenT} {rest : List Expr}
theorem tan1_ok (ha : PT X a (tT G W fe dt)) : PW X (.BoolOp .And [a] pos) (tT G W fe dt) := pw_and1 ha
theorem too1_ok (ha : PT X a (tT G W fe dt)) : PW X (.BoolOp .Or [a] pos) (tT G W fe dt) := pw_or1 ha
theorem tan_ok (ha : PT X a (tT G W fe dt)) (hb : PW X (.BoolOp .And (b :: rest) pos) (tT G W fe du)) : PW X (.BoolOp .And (a :: b :: rest) pos) (tT G W fe (tAn dt du)) := PW.imp (pw_and ha hb) fun σ H Q h => by
  obtain ⟨β, m, ρ, rp, rs, g⟩ := h
  refine ⟨β, m, ρ, rp, rs, GoodO.mono (GoodO.bind g) fun x m1 H1 β1 e1 rp1 g1 => ?_⟩
  cases x with
  | true => exact ⟨β1, m1, ρ, rp1, rs.ext rp e1, g1⟩
  | false => exact g1 β1 H1 Ext.refl rp1
theorem too_ok (ha : PT X a (tT G W fe dt)) (hb : PW X (.BoolOp .Or (b :: rest) pos) (tT G W fe du)) : PW X (.BoolOp .Or (a :: b :: rest) pos) (tT G W fe (tOo dt du)) := PW.imp (pw_or ha hb) fun σ H Q h => by
  obtain ⟨β, m, ρ, rp, rs, g⟩ := h
  refine ⟨β, m, ρ, rp, rs, GoodO.mono (GoodO.bind g) fun x m1 H1 β1 e1 rp1 g1 => ?_⟩
  cases x with
  | false => exact ⟨β1, m1, ρ, rp1, rs.ext rp e1, g1⟩
  | true => exact g1 β1 H1 Ext.refl rp1
theorem xand_ok (ha : PE X a (tE G W fe da)) (hb : PE X (.BoolOp .And (b :: rest) pos) (tE G W fe db)) : PE X (.BoolOp .And (a :: b :: rest) pos) (tE G W fe (xAnd da db)) := PE.imp (pe_and ha hb) fun σ H Q h => by
  obtain ⟨β, m, ρ, rp, rs, g⟩ := h
  refine ⟨β, m, ρ, rp, rs, (GoodO.mono (GoodO.bind (GoodE.iff.mp g)) fun x m1 H1 β1 e1 rp1 g1 u ru => ?_).e⟩
  cases x with
  | bl k =>
    simp only [RV] at ru; subst ru
    cases k with
    | true => exact ⟨true, rfl, β1, m1, ρ, rp1, rs.ext rp e1, g1.e⟩
    | false => exact ⟨false, rfl, Post.bl (GoodE.iff.mpr g1) rp1⟩
  | _ => exact False.elim g1
theorem xor_ok (ha : PE X a (tE G W fe da)) (hb : PE X (.BoolOp .Or (b :: rest) pos) (tE G W fe db)) : PE X (.BoolOp .Or (a :: b :: rest) pos) (tE G W fe (xOr da db)) := PE.imp (pe_or ha hb) fun σ H Q h => by
  obtain ⟨β, m, ρ, rp, rs, g⟩ := h
  refine ⟨β, m, ρ, rp, rs, (GoodO.mono (GoodO.bind (GoodE.iff.mp g)) fun x m1 H1 β1 e1 rp1 g1 u ru => ?_).e⟩
  cases x with
  | bl k =>
    simp only [RV] at ru; subst ru
    cases k with
    | false => exact ⟨false, rfl, β1, m1, ρ, rp1, rs.ext rp e1, g1.e⟩
    | true => exact ⟨true, rfl, Post.bl (GoodE.iff.mpr g1) rp1⟩
  | _ => exact False.elim g1
theorem xnot_ok (ha : PE X a (tE G W fe da)) : PE X (.UnaryOp .Not a pos) (tE G W fe (xNot da)) := PE.imp (pe_not ha) fun σ H Q h => by
  obtain ⟨β, m, ρ, rp, rs, g⟩ := h
  refine ⟨β, m, ρ, rp, rs, (GoodO.mono (GoodO.bind (GoodE.iff.mp g)) fun x m1 H1 β1 e1 rp1 g1 u ru => ?_).e⟩
  cases x with
  | bl k => simp only [RV] at ru; subst ru; exact ⟨k, rfl, Post.bl (GoodE.iff.mpr g1) rp1⟩
  | _ => exact False.elim g1
theorem xif_ok (hc : PT X c (tT G W fe dt)) (ha : PE X a (tE G W fe da)) (hb : PE X b (tE G W fe db)) : PE X (.IfExp c a b pos) (tE G W fe (xIf dt da db)) := PE.imp (pe_ifExp hc ha hb) fun σ H Q h => by
  obtain ⟨β, m, ρ, rp, rs, g⟩ := h
  refine ⟨β, m, ρ, rp, rs, GoodO.mono (GoodO.bind (GoodE.iff.mp g)) fun x m1 H1 β1 e1 rp1 g1 => ?_⟩
  cases x with
  | true => exact ⟨β1, m1, ρ, rp1, rs.ext rp e1, g1.e⟩
  | false => exact ⟨β1, m1, ρ, rp1, rs.ext rp e1, g1.e⟩
variable {es : List Expr} {dA : DenA}
theorem anil_ok : PA X [] (tA G W fe aNil) := PA.imp pa_nil fun σ H Q ⟨β, m, ρ, rp, rs, g⟩ => g β H Ext.refl rp [] RVs.nil
theorem acons_ok (ha : PE X a (tE G W fe da)) (hr : PA X es (tA G W fe dA)) (hs : starEach (a :: es) X.env = (false, eval a X.env) :: starEach es X.env) : PA X (a :: es) (tA G W fe (aCons da dA)) := PA.imp (pa_cons ha hr hs) fun σ H Q h => by
  obtain ⟨β, m, ρ, rp, rs, g⟩ := h
  refine ⟨β, m, ρ, rp, rs, (GoodO.mono (GoodO.bind g) fun x m1 H1 β1 e1 rp1 g1 u ru => ?_).e⟩
  refine ⟨β1, m1, ρ, rp1, rs.ext rp e1, GoodO.mono (GoodO.bind g1) fun xs m2 H2 β2 e2 rp2 g2 us rus => ?_⟩
  exact g2 β2 H2 Ext.refl rp2 _ (RVs.cons (RV.mono (e2.tl rp1) e2.bl _ _ ru) rus)
theorem xtup_ok {k : Nat} (h : PA X es (tA G W fe dA)) : PE X (.Tuple es k pos) (tE G W fe (xTup dA)) := PE.imp (pe_tupF h) fun σ H Q h => by
  obtain ⟨β, m, ρ, rp, rs, g⟩ := h
  refine ⟨β, m, ρ, rp, rs, GoodO.mono (GoodO.bind (GoodE.iff.mp g)) fun xs m1 H1 β1 e1 rp1 g1 us rus => ?_⟩
  split at g1
  · rename_i c
    exact ⟨by rw [rus.length]; exact c, fun p o hp ho => Post.tup (GoodE.iff.mpr g1) rp1 rus hp ho⟩
  · exact False.elim g1
theorem xlst_ok (h : PA X es (tA G W fe dA)) : PE X (.List es pos) (tE G W fe (xLst dA)) := PE.imp (pe_lst h) fun σ H Q h => by
  obtain ⟨β, m, ρ, rp, rs, g⟩ := h
  refine ⟨β, m, ρ, rp, rs, GoodO.mono (GoodO.bind (GoodE.iff.mp g)) fun xs m1 H1 β1 e1 rp1 g1 us rus => ?_⟩
  split at g1
  · rename_i c
    exact ⟨by rw [rus.length]; exact c, fun p hp => Post.lst (GoodE.iff.mpr g1) rp1 rus hp⟩
  · exact False.elim g1
theorem xchain_ok {op op' : CmpOp} {f f' : Op2} (ho : OpR X (compareOp op) (rO2 G f)) (ho' : OpR X (compareOp op') (rO2 G f')) (ha : PE X a (tE G W fe da)) (hb : PE X b (tE G W fe db)) (hc : PE X c (tE G W fe dc))
    (hm : lastMarks [op, op'] [b, c] = false) : PE X (.Compare a [op, op'] [b, c] pos) (tE G W fe (xChain f f' da db dc)) := PE.imp (pe_chain ho ho' ha hb hc hm) fun σ H Q h => by
  obtain ⟨β, m, ρ, rp, rs, g⟩ := h
  refine ⟨β, m, ρ, rp, rs, (GoodO.mono (GoodO.bind (GoodE.iff.mp g)) fun x m1 H1 β1 e1 rp1 g1 u ru => ?_).e⟩
  refine ⟨β1, m1, ρ, rp1, rs.ext rp e1, (GoodO.mono (GoodO.bind g1) fun y m2 H2 β2 e2 rp2 g2 w rw' => ?_).e⟩
  refine ⟨β2, m2, x, y, rp2, RV.mono (e2.tl rp1) e2.bl _ _ ru, rw', ?_⟩
  have g3 := GoodO.bind g2
  cases e : f x y m2 with
  | none => rw [e] at g3; exact g3
  | some p =>
    rw [e] at g3
    obtain ⟨z, m3⟩ := p
    intro uz β3 H3 e3 rp3 rz
    have g4 := g3 β3 H3 e3 rp3
    cases z with
    | bl k =>
      simp only [RV] at rz; subst rz
      cases k with
      | true =>
        refine ⟨true, rfl, β3, m3, ρ, rp3, (rs.ext rp e1 |>.ext rp1 e2).ext rp2 e3, (GoodO.mono (GoodO.bind g4) fun w4 m4 H4 β4 e4 rp4 g5 uw ruw => ?_).e⟩
        exact ⟨β4, m4, y, w4, rp4, RV.mono (e4.tl rp3) e4.bl _ _ (RV.mono (e3.tl rp2) e3.bl _ _ rw'), ruw, GoodE.ofO (g5.e)⟩
      | false => exact ⟨false, rfl, Post.bl (GoodE.iff.mpr g4) rp3⟩
    | _ => exact False.elim g4
end
end Mn
set_option Elab.async false
set_option linter.all false
set_option maxRecDepth 100000
set_option maxHeartbeats 1000000
/-! Mn7: built-ins and methods. -/
namespace Mn
open PySem L2 PySem.Spec PyProof.Rows PyProof.V PySem.W PySem.Calls
abbrev OpN := List D → Mem → Option (D × Mem)
def rON (G : Gx) (f : OpN) : List V → Hp → VK → Prop := fun vs H Q => ∃ β m ds, Rp G H β m ∧ RVs G H β vs ds ∧ PostO G H β Q (f ds m)
/-- f(a, ..), f a built-in -/
def xCallF (f : OpN) (a : DenA) : Den := fun fe ρ m => (a fe ρ m).bind fun ds m1 => .ofO (f ds m1)
section
variable {G : Gx} {X : Cx} {W : WX} {fe : FE} {x : Str} {p pos : Pos} {e : Expr} {es : List Expr} {dA : DenA} {id T : String} {f : OpN}
theorem callF_red {σ : L2.St} {H : Hp} {Q : VK} (h : tE G W fe (xCallF f dA) σ H Q) : tCB (rON G f) (tA G W fe dA) σ H Q := by
  obtain ⟨β, m, ρ, rp, rs, g⟩ := h
  exact ⟨β, m, ρ, rp, rs, GoodO.mono (GoodO.bind (GoodE.iff.mp g)) fun ds m1 H1 β1 e1 rp1 g1 vs rvs => ⟨β1, m1, ds, rp1, rvs, GoodE.ofO (g1.e)⟩⟩
theorem xcallB_ok (hc : CallR X (.builtin id) (rON G f)) (hg : Gl X x) (hm : X.mg x = none) (hv : bootBuiltins x = some (.builtin id)) (ha : PA X (e :: es) (tA G W fe dA)) (hn : x ≠ "__name__") (hdb : (x == ("__debug__" : Str)) = false)
    (he : starEach (e :: es) X.env = (false, eval e X.env) :: starEach es X.env) (hpl : (backTo pos (starEach es X.env)).any (·.1) = false) : PE X (.Call (.Name x p) (e :: es) [] pos) (tE G W fe (xCallF f dA)) :=
  PE.imp (pe_callB hc hg hm hv ha hn hdb he hpl) fun _ _ _ h => callF_red h
theorem xcallTy_ok (hc : CallR X (.type T) (rON G f)) (hg : Gl X x) (hm : X.mg x = none) (hv : bootBuiltins x = some (.type T)) (ha : PA X (e :: es) (tA G W fe dA)) (hn : x ≠ "__name__") (hdb : (x == ("__debug__" : Str)) = false)
    (he : starEach (e :: es) X.env = (false, eval e X.env) :: starEach es X.env) (hpl : (backTo pos (starEach es X.env)).any (·.1) = false) : PE X (.Call (.Name x p) (e :: es) [] pos) (tE G W fe (xCallF f dA)) :=
  PE.imp (pe_callTy hc hg hm hv ha hn hdb he hpl) fun _ _ _ h => callF_red h
end
/-! ### len -/
def bLen : OpN
  | [.str s], m => if s.length ≤ sizeLine then some (.int s.length, m) else none
  | [.tup xs], m => some (.int xs.length, m)
  | [.seq xs], m => some (.int xs.length, m)
  | [.loc l], m => match m[l]? with
    | some (.lst xs) => some (.int xs.length, m)
    | some (.dict kvs _) => some (.int kvs.length, m)
    | _ => none
  | _, _ => none
section
variable {G : Gx} {X : Cx} {pins : List (Addr × Obj)} {σ : L2.St} {H : Hp} {s : Shared} {β : List Pl} {a : Addr} {es : Array DictEntry} {ep : Nat} {kvs : List (D × D)}
/-- the entries as they stand -/
abbrev PE2 (G : Gx) (H : Hp) (β : List Pl) : List DictEntry → List (D × D) → Prop := Paired fun e q => RValue G H β e.key q.1 ∧ RValue G H β e.val q.2
theorem entM_all : ∀ {es : List DictEntry} {ks : List (L2.Key × Value)} {kvs : List (D × D)}, Pairs (mixKind G.P G.w) es ks → PM G H β ks kvs → PE2 G H β es kvs
  | _, _, _, .nil, .nil => .nil
  | _, _, _, .cons h1 h2 t, .cons r q => by
    rename_i e kv es ks b kvs
    refine .cons ⟨?_, by rw [h2]; exact r.2⟩ (entM_all t q)
    have hk : keyIs kv.1 e.key = true := h1
    rcases keyIs_shape hk with ⟨i, t, e1, e2⟩ | ⟨i, t, e1, e2⟩
    · refine ⟨.int i, ⟨t, e2⟩, ?_⟩
      have r1 := r.1
      rw [e1] at r1
      cases hq : b.1 <;> rw [hq] at r1 <;> simp [keyM] at r1
      simp [RV, r1]
    · refine ⟨.str i, ⟨t, e2⟩, ?_⟩
      have r1 := r.1
      rw [e1] at r1
      cases hq : b.1 <;> rw [hq] at r1 <;> simp [keyM] at r1
      simp [RV, r1]
theorem entN_all : ∀ {es : List DictEntry} {xs : List (NestedKey × Addr × Value)} {kvs : List (D × D)}, es = xs.map (entryOfKey (nestedKind G.P G.w)) → PN G H β xs kvs → PE2 G H β es kvs
  | _, _, _, h, .nil => by subst h; exact .nil
  | _, _, _, h, .cons r q => by
    subst h
    simp only [List.map_cons]
    exact .cons ⟨⟨.ref _, rfl, r.2.2.1⟩, r.2.2.2⟩ (entN_all rfl q)
theorem ent_all (e : EntM G H β es kvs ∨ EntN G H β es kvs) : PE2 G H β es.toList kvs := by
  rcases e with ⟨ks, _, h2, _, h4⟩ | ⟨xs, h1, _, h3⟩
  · exact entM_all h2 h4
  · exact entN_all h1 h3
theorem dlen_ok {Q : Value → Shared → Prop} (on : On G X) (I : L2.Inv X pins σ H s) (hs : (a == sysModules) = false) (hl : kvs.length ≤ sizeLine) (h : H a = some (dictO a es ep)) (e : EntM G H β es kvs ∨ EntN G H β es kvs) {A : Around} {E : Value → Shared → Prop}
    (hq : ∀ t s', L2.Inv X pins σ H s' → Q (.int kvs.length t) s') : wpAny (model X.prog X.w) A (call (.builtin "len") [.ref a]) Q E s := by
  obtain ⟨o, ep, h1, h2, h3⟩ := dictO_at I h
  rw [sizeLine_eq] at hl
  rcases e with ⟨ks, e1, e2, e3, e4⟩ | ⟨xs, e1, e2, e3⟩
  · have dd : s.heap.DictOf (mixKind X.prog X.w) a ks := by
      rw [on.P, on.w]; exact ⟨o, es, ep, h1, h2, h3, e1, e2, e3⟩
    have hlen := Paired.length e4
    refine call_len_dict hs dd (by omega) ?_
    rw [hlen]
    exact hq _ _ (I.tok _)
  · have dd : s.heap.DictOfH (nestedKind X.prog X.w) a xs := by
      refine ⟨o, es, ep, h1, h2, h3, ?_, fun x hx => ?_, e2⟩
      · rw [on.P, on.w]; exact e1
      · have aux : ∀ {l1 : List (NestedKey × Addr × Value)} {l2 : List (D × D)}, PN G H β l1 l2 → x ∈ l1 → ∃ q ∈ l2, keyN q.1 = some x.1 ∧ x.1.depth ≤ 8 ∧ RV G H β (.ref x.2.1) q.1 ∧ RValue G H β x.2.2 q.2 := by
          intro l1 l2 p
          induction p with
          | nil => intro h; simp at h
          | cons r t ih =>
            intro h
            rcases List.mem_cons.mp h with rfl | h
            · exact ⟨_, List.mem_cons_self, r⟩
            · obtain ⟨q, h1, h2⟩ := ih h
              exact ⟨q, List.mem_cons_of_mem _ h1, h2⟩
        obtain ⟨q, _, r1, r2, r3, _⟩ := aux e3 hx
        exact ⟨nested_is on I q.1 x.1 _ _ r1 r3 rfl, r2⟩
    have hlen := Paired.length e3
    have dk : s.heap.DictKeyed (nestedKind X.prog X.w) a (pairsH xs) := ⟨xs, dd, rfl⟩
    have hp : (pairsH xs).length = kvs.length := by rw [pairsH_length]; exact hlen
    refine PyProof.Rows.call_len_slot (n := ((pairsH xs).length : Nat)) dk.typeIs PySem.F.slot_dict_len (fun Q' hq' => len_keyed hs dk hq') (by omega) (by omega) ?_
    rw [hp]
    exact hq _ _ (I.tok _)
end
section
variable {G : Gx} {X : Cx}
theorem bLen_ok (on : On G X) : CallR X (.builtin "len") (rON G bLen) := by
  intro pins s σ H xs us Q I r ⟨β, m, ds, rp, rv, h⟩
  unfold bLen at h
  split at h
  · obtain ⟨v, r2, rfl, q1, q2⟩ := (show ∃ x r, xs = x :: r ∧ RV G H β x _ ∧ RVs G H β r [] by simpa [RVs] using rv)
    simp only [RVs] at q2; subst q2
    simp only [RV] at q1; subst q1
    split at h
    · rename_i c
      exact call_len pins s σ H _ us Q I r ⟨_, _, rfl, ⟨c, rfl⟩, Post.int h rp⟩
    · exact h.elim
  · obtain ⟨v, r2, rfl, q1, q2⟩ := (show ∃ x r, xs = x :: r ∧ RV G H β x _ ∧ RVs G H β r [] by simpa [RVs] using rv)
    simp only [RVs] at q2; subst q2
    simp only [RV] at q1
    obtain ⟨p, ys, rfl, h1, h2⟩ := q1
    refine call_len pins s σ H _ us Q I r ⟨_, ys.length, rfl, .inr ⟨ys, on.K ▸ h1.sq, rfl⟩, ?_⟩
    rw [h2.length]
    exact Post.int h rp
  · obtain ⟨v, r2, rfl, q1, q2⟩ := (show ∃ x r, xs = x :: r ∧ RV G H β x _ ∧ RVs G H β r [] by simpa [RVs] using rv)
    simp only [RVs] at q2; subst q2
    simp only [RV] at q1
    obtain ⟨p, ys, rfl, h1, h2⟩ := q1
    refine call_len pins s σ H _ us Q I r ⟨_, ys.length, rfl, .inl ⟨ys, on.K ▸ h1.sq, rfl⟩, ?_⟩
    rw [h2.length]
    exact Post.int h rp
  · obtain ⟨v, r2, rfl, q1, q2⟩ := (show ∃ x r, xs = x :: r ∧ RV G H β x _ ∧ RVs G H β r [] by simpa [RVs] using rv)
    simp only [RVs] at q2; subst q2
    split at h
    · rename_i e
      obtain ⟨p, ys, rfl, _, h1, h2⟩ := rp.lst e q1
      refine call_len pins s σ H _ us Q I r ⟨_, ys.length, rfl, .inl ⟨ys, SqL.of h1, rfl⟩, ?_⟩
      rw [h2.length]
      exact Post.int h rp
    · rename_i e
      obtain ⟨p, es, ep, rfl, _, hs, hl, h2, h3⟩ := rp.dict e q1
      obtain ⟨u, rfl, ru⟩ := vals1 r
      cases ru
      exact dlen_ok on I hs hl h2 h3 fun t s' I' => ⟨.int _, H, I', ⟨t, rfl⟩, Post.int h rp⟩
    · exact h.elim
  · exact h.elim
theorem RVs.split1 {H : Hp} {β : List Pl} {vs : List V} {d : D} (h : RVs G H β vs [d]) : ∃ v, vs = [v] ∧ RV G H β v d := by
  simp only [RVs] at h
  obtain ⟨x, r, rfl, h1, rfl⟩ := h
  exact ⟨x, rfl, h1⟩
theorem RVs.split2 {H : Hp} {β : List Pl} {vs : List V} {d e : D} (h : RVs G H β vs [d, e]) : ∃ v w, vs = [v, w] ∧ RV G H β v d ∧ RV G H β w e := by
  simp only [RVs] at h
  obtain ⟨x, r, rfl, h1, y, r2, rfl, h2, rfl⟩ := h
  exact ⟨x, y, rfl, h1, h2⟩
/-! ### int, max, min, abs -/
def bInt : OpN
  | [.int i], m => some (.int i, m)
  | [.bl k], m => some (.int (if k then 1 else 0), m)
  | _, _ => none
theorem bInt_ok (on : On G X) : CallR X (.type "int") (rON G bInt) := by
  intro pins s σ H xs us Q I r ⟨β, m, ds, rp, rv, h⟩
  unfold bInt at h
  split at h
  · obtain ⟨v, rfl, q⟩ := rv.split1
    simp only [RV] at q; subst q
    exact call_int1 pins s σ H _ us Q I r (.inl ⟨_, rfl, Post.int h rp⟩)
  · obtain ⟨v, rfl, q⟩ := rv.split1
    simp only [RV] at q; subst q
    exact call_int1 pins s σ H _ us Q I r (.inr ⟨_, rfl, Post.int h rp⟩)
  · exact h.elim
def bAbs : OpN
  | [.int i], m => some (.int (if i < 0 then -i else i), m)
  | _, _ => none
theorem bAbs_ok (on : On G X) : CallR X (.builtin "abs") (rON G bAbs) := by
  intro pins s σ H xs us Q I r ⟨β, m, ds, rp, rv, h⟩
  unfold bAbs at h
  split at h
  · obtain ⟨v, rfl, q⟩ := rv.split1
    simp only [RV] at q; subst q
    exact call_abs pins s σ H _ us Q I r ⟨_, rfl, Post.int h rp⟩
  · exact h.elim
def intsD : List D → Option (List Int)
  | [] => some []
  | .int i :: r => (intsD r).map (i :: ·)
  | _ => none
def boolsD : List D → Option (List Bool)
  | [] => some []
  | .bl i :: r => (boolsD r).map (i :: ·)
  | _ => none
theorem intsD_vs {H : Hp} {β : List Pl} : ∀ {ds : List D} {ns : List Int} {vs : List V}, intsD ds = some ns → RVs G H β vs ds → vs = ns.map V.int
  | [], ns, vs, h, r => by simp only [intsD, Option.some.injEq] at h; simp only [RVs] at r; subst h r; rfl
  | .int i :: ds, ns, vs, h, r => by
    simp only [intsD, Option.map_eq_some_iff] at h
    obtain ⟨ms, h1, rfl⟩ := h
    simp only [RVs, RV] at r
    obtain ⟨x, q, rfl, rfl, h2⟩ := r
    rw [intsD_vs h1 h2]; rfl
  | .non :: _, _, _, h, _ => by simp [intsD] at h
  | .bl _ :: _, _, _, h, _ => by simp [intsD] at h
  | .str _ :: _, _, _, h, _ => by simp [intsD] at h
  | .tup _ :: _, _, _, h, _ => by simp [intsD] at h
  | .seq _ :: _, _, _, h, _ => by simp [intsD] at h
  | .loc _ :: _, _, _, h, _ => by simp [intsD] at h
  | .fn _ :: _, _, _, h, _ => by simp [intsD] at h
theorem boolsD_vs {H : Hp} {β : List Pl} : ∀ {ds : List D} {ns : List Bool} {vs : List V}, boolsD ds = some ns → RVs G H β vs ds → vs = ns.map V.bl
  | [], ns, vs, h, r => by simp only [boolsD, Option.some.injEq] at h; simp only [RVs] at r; subst h r; rfl
  | .bl i :: ds, ns, vs, h, r => by
    simp only [boolsD, Option.map_eq_some_iff] at h
    obtain ⟨ms, h1, rfl⟩ := h
    simp only [RVs, RV] at r
    obtain ⟨x, q, rfl, rfl, h2⟩ := r
    rw [boolsD_vs h1 h2]; rfl
  | .non :: _, _, _, h, _ => by simp [boolsD] at h
  | .int _ :: _, _, _, h, _ => by simp [boolsD] at h
  | .str _ :: _, _, _, h, _ => by simp [boolsD] at h
  | .tup _ :: _, _, _, h, _ => by simp [boolsD] at h
  | .seq _ :: _, _, _, h, _ => by simp [boolsD] at h
  | .loc _ :: _, _, _, h, _ => by simp [boolsD] at h
  | .fn _ :: _, _, _, h, _ => by simp [boolsD] at h
/-- the items of a list that stands in the store, or is only read -/
def listM (m : Mem) : D → Option (List D)
  | .seq xs => some xs
  | .loc l => match m[l]? with
    | some (.lst xs) => some xs
    | _ => none
  | _ => none
theorem listM_sq {H : Hp} {β : List Pl} {m : Mem} {d : D} {ds : List D} {v : V} (rp : Rp G H β m) (h : listM m d = some ds) (r : RV G H β v d) : ∃ a xs, v = .ref a ∧ SqL G.K H a xs ∧ RVs G H β xs ds := by
  unfold listM at h
  split at h
  · simp only [Option.some.injEq] at h; subst h
    simp only [RV] at r
    obtain ⟨a, xs, rfl, h1, h2⟩ := r
    exact ⟨a, xs, rfl, h1.sq, h2⟩
  · split at h
    · rename_i e
      simp only [Option.some.injEq] at h; subst h
      obtain ⟨a, xs, rfl, _, h1, h2⟩ := rp.lst e r
      exact ⟨a, xs, rfl, SqL.of h1, h2⟩
    · cases h
  · cases h
theorem itemsM_sqF {H : Hp} {β : List Pl} {m : Mem} {d : D} {ds : List D} {v : V} (rp : Rp G H β m) (h : itemsM m d = some ds) (r : RV G H β v d) : ∃ a xs, v = .ref a ∧ (SqL G.K H a xs ∨ FzT G.K H a xs) ∧ RVs G H β xs ds := by
  unfold itemsM at h
  split at h
  · simp only [Option.some.injEq] at h; subst h
    simp only [RV] at r
    obtain ⟨a, xs, rfl, h1, h2⟩ := r
    exact ⟨a, xs, rfl, .inr h1, h2⟩
  · simp only [Option.some.injEq] at h; subst h
    simp only [RV] at r
    obtain ⟨a, xs, rfl, h1, h2⟩ := r
    exact ⟨a, xs, rfl, .inl h1.sq, h2⟩
  · split at h
    · rename_i e
      simp only [Option.some.injEq] at h; subst h
      obtain ⟨a, xs, rfl, _, h1, h2⟩ := rp.lst e r
      exact ⟨a, xs, rfl, .inl (SqL.of h1), h2⟩
    · cases h
  · cases h
theorem itemsM_sq {H : Hp} {β : List Pl} {m : Mem} {d : D} {ds : List D} {v : V} (rp : Rp G H β m) (h : itemsM m d = some ds) (r : RV G H β v d) : ∃ a xs, v = .ref a ∧ (SqL G.K H a xs ∨ SqT G.K H a xs) ∧ RVs G H β xs ds := by
  obtain ⟨a, xs, e, h1, h2⟩ := itemsM_sqF rp h r
  exact ⟨a, xs, e, h1.imp id FzT.sq, h2⟩
/-- max, min of two ints, or of a list of ints -/
def maxI : List Int → Int
  | [] => 0
  | x :: xs => xs.foldl max x
def minI : List Int → Int
  | [] => 0
  | x :: xs => xs.foldl min x
theorem foldl_max_le (l : List Int) : ∀ (a : Int), a ≤ l.foldl max a ∧ (∀ y ∈ l, y ≤ l.foldl max a) ∧ (l.foldl max a = a ∨ l.foldl max a ∈ l) := by
  induction l with
  | nil => intro a; exact ⟨Int.le_refl _, by simp, .inl rfl⟩
  | cons x l ih =>
    intro a
    obtain ⟨h1, h2, h3⟩ := ih (max a x)
    simp only [List.foldl_cons]
    refine ⟨by omega, fun y hy => ?_, ?_⟩
    · rcases List.mem_cons.mp hy with rfl | hy
      · omega
      · exact h2 y hy
    · rcases h3 with h | h
      · rcases Int.le_total a x with c | c
        · rw [h, Int.max_eq_right c]; exact .inr List.mem_cons_self
        · rw [h, Int.max_eq_left c]; exact .inl rfl
      · exact .inr (List.mem_cons_of_mem _ h)
theorem foldl_min_le (l : List Int) : ∀ (a : Int), l.foldl min a ≤ a ∧ (∀ y ∈ l, l.foldl min a ≤ y) ∧ (l.foldl min a = a ∨ l.foldl min a ∈ l) := by
  induction l with
  | nil => intro a; exact ⟨Int.le_refl _, by simp, .inl rfl⟩
  | cons x l ih =>
    intro a
    obtain ⟨h1, h2, h3⟩ := ih (min a x)
    simp only [List.foldl_cons]
    refine ⟨by omega, fun y hy => ?_, ?_⟩
    · rcases List.mem_cons.mp hy with rfl | hy
      · omega
      · exact h2 y hy
    · rcases h3 with h | h
      · rcases Int.le_total a x with c | c
        · rw [h, Int.min_eq_left c]; exact .inl rfl
        · rw [h, Int.min_eq_right c]; exact .inr List.mem_cons_self
      · exact .inr (List.mem_cons_of_mem _ h)
theorem maxI_is {ns : List Int} {k : Int} (hk : k ∈ ns) (h : ∀ y ∈ ns, y ≤ k) : k = maxI ns := by
  cases ns with
  | nil => simp at hk
  | cons x xs =>
    obtain ⟨h1, h2, h3⟩ := foldl_max_le xs x
    have a : k ≤ maxI (x :: xs) := by
      rcases List.mem_cons.mp hk with rfl | hk
      · exact h1
      · exact h2 k hk
    have b : maxI (x :: xs) ≤ k := by
      rcases h3 with e | e
      · show xs.foldl max x ≤ k
        rw [e]; exact h x List.mem_cons_self
      · exact h _ (List.mem_cons_of_mem _ e)
    omega
theorem minI_is {ns : List Int} {k : Int} (hk : k ∈ ns) (h : ∀ y ∈ ns, k ≤ y) : k = minI ns := by
  cases ns with
  | nil => simp at hk
  | cons x xs =>
    obtain ⟨h1, h2, h3⟩ := foldl_min_le xs x
    have a : minI (x :: xs) ≤ k := by
      rcases List.mem_cons.mp hk with rfl | hk
      · exact h1
      · exact h2 k hk
    have b : k ≤ minI (x :: xs) := by
      rcases h3 with e | e
      · show k ≤ xs.foldl min x
        rw [e]; exact h x List.mem_cons_self
      · exact h _ (List.mem_cons_of_mem _ e)
    omega
def bMax : OpN
  | [.int i, .int j], m => some (.int (max i j), m)
  | [d], m => match (listM m d).bind intsD with
    | some (n :: ns) => some (.int (maxI (n :: ns)), m)
    | _ => none
  | _, _ => none
def bMin : OpN
  | [.int i, .int j], m => some (.int (min i j), m)
  | [d], m => match (listM m d).bind intsD with
    | some (n :: ns) => some (.int (minI (n :: ns)), m)
    | _ => none
  | _, _ => none
theorem bMax_ok (on : On G X) (hc : X.calm = true) : CallR X (.builtin "max") (rON G bMax) := by
  intro pins s σ H xs us Q I r ⟨β, m, ds, rp, rv, h⟩
  unfold bMax at h
  split at h
  · rename_i i j
    obtain ⟨v, w, rfl, q1, q2⟩ := rv.split2
    simp only [RV] at q1 q2; subst q1 q2
    refine call_max2 hc pins s σ H _ us Q I r ⟨_, _, rfl, ?_⟩
    have := Post.int h rp
    have e : (if j > i then j else i) = max i j := by split <;> omega
    rw [e]; exact this
  · obtain ⟨v, rfl, q⟩ := rv.split1
    split at h
    · rename_i n ns e
      obtain ⟨l, e1, e2⟩ := Option.bind_eq_some_iff.mp e
      obtain ⟨a, xs, rfl, h1, h2⟩ := listM_sq rp e1 q
      have e3 := intsD_vs e2 h2
      subst e3
      refine cr_max hc pins s σ H _ us Q I r ⟨a, n :: ns, rfl, on.K ▸ h1, by simp, fun k hk hle => ?_⟩
      rw [maxI_is hk hle]
      exact Post.int h rp
    · exact h.elim
  · exact h.elim
theorem bMin_ok (on : On G X) (hc : X.calm = true) : CallR X (.builtin "min") (rON G bMin) := by
  intro pins s σ H xs us Q I r ⟨β, m, ds, rp, rv, h⟩
  unfold bMin at h
  split at h
  · rename_i i j
    obtain ⟨v, w, rfl, q1, q2⟩ := rv.split2
    simp only [RV] at q1 q2; subst q1 q2
    refine call_min2 hc pins s σ H _ us Q I r ⟨_, _, rfl, ?_⟩
    have := Post.int h rp
    have e : (if j < i then j else i) = min i j := by split <;> omega
    rw [e]; exact this
  · obtain ⟨v, rfl, q⟩ := rv.split1
    split at h
    · rename_i n ns e
      obtain ⟨l, e1, e2⟩ := Option.bind_eq_some_iff.mp e
      obtain ⟨a, xs, rfl, h1, h2⟩ := listM_sq rp e1 q
      have e3 := intsD_vs e2 h2
      subst e3
      refine cr_min hc pins s σ H _ us Q I r ⟨a, n :: ns, rfl, on.K ▸ h1, by simp, fun k hk hle => ?_⟩
      rw [minI_is hk hle]
      exact Post.int h rp
    · exact h.elim
  · exact h.elim
def bSum : OpN
  | [d], m => match (listM m d).bind intsD with
    | some ns => some (.int ns.sum, m)
    | _ => none
  | _, _ => none
theorem bSum_ok (on : On G X) (hc : X.calm = true) : CallR X (.builtin "sum") (rON G bSum) := by
  intro pins s σ H xs us Q I r ⟨β, m, ds, rp, rv, h⟩
  unfold bSum at h
  split at h
  · obtain ⟨v, rfl, q⟩ := rv.split1
    split at h
    · rename_i ns e
      obtain ⟨l, e1, e2⟩ := Option.bind_eq_some_iff.mp e
      obtain ⟨a, xs, rfl, h1, h2⟩ := listM_sq rp e1 q
      have e3 := intsD_vs e2 h2
      subst e3
      exact cr_sum hc pins s σ H _ us Q I r ⟨a, ns, rfl, on.K ▸ h1, Post.int h rp⟩
    · exact h.elim
  · exact h.elim
def bAll : OpN
  | [d], m => match (listM m d).bind boolsD with
    | some bs => some (.bl (bs.all id), m)
    | none => none
  | _, _ => none
def bAny : OpN
  | [d], m => match (listM m d).bind boolsD with
    | some bs => some (.bl (bs.any id), m)
    | none => none
  | _, _ => none
theorem bAll_ok (on : On G X) (hc : X.calm = true) : CallR X (.builtin "all") (rON G bAll) := by
  intro pins s σ H xs us Q I r ⟨β, m, ds, rp, rv, h⟩
  unfold bAll at h
  split at h
  · obtain ⟨v, rfl, q⟩ := rv.split1
    split at h
    · rename_i ns e
      obtain ⟨l, e1, e2⟩ := Option.bind_eq_some_iff.mp e
      obtain ⟨a, xs, rfl, h1, h2⟩ := listM_sq rp e1 q
      have e3 := boolsD_vs e2 h2
      subst e3
      exact cr_all hc pins s σ H _ us Q I r ⟨a, ns, rfl, on.K ▸ h1, Post.bl h rp⟩
    · exact h.elim
  · exact h.elim
theorem bAny_ok (on : On G X) (hc : X.calm = true) : CallR X (.builtin "any") (rON G bAny) := by
  intro pins s σ H xs us Q I r ⟨β, m, ds, rp, rv, h⟩
  unfold bAny at h
  split at h
  · obtain ⟨v, rfl, q⟩ := rv.split1
    split at h
    · rename_i ns e
      obtain ⟨l, e1, e2⟩ := Option.bind_eq_some_iff.mp e
      obtain ⟨a, xs, rfl, h1, h2⟩ := listM_sq rp e1 q
      have e3 := boolsD_vs e2 h2
      subst e3
      exact cr_any hc pins s σ H _ us Q I r ⟨a, ns, rfl, on.K ▸ h1, Post.bl h rp⟩
    · exact h.elim
  · exact h.elim
/-! ### tuple, list -/
def bTuple : OpN
  | [d], m => (itemsM m d).map fun xs => (.tup xs, m)
  | _, _ => none
theorem bTuple_ok (on : On G X) : CallR X (.type "tuple") (rON G bTuple) := by
  intro pins s σ H xs us Q I r ⟨β, m, ds, rp, rv, h⟩
  unfold bTuple at h
  split at h
  · obtain ⟨v, rfl, q⟩ := rv.split1
    cases e : itemsM m _ with
    | none => rw [e] at h; exact h.elim
    | some ys =>
      rw [e] at h
      obtain ⟨a, zs, rfl, h1, h2⟩ := itemsM_sqF rp e q
      refine call_tupleF pins s σ H _ us Q I r ⟨a, zs, rfl, ?_⟩
      rcases h1 with h1 | h1
      · exact .inl ⟨on.K ▸ h1, fun l o hl ho => Post.tup h rp h2 hl ho⟩
      · refine .inr ⟨on.K ▸ h1.sq, Post.same h rp ?_⟩
        simp only [RV]
        exact ⟨a, zs, rfl, h1, h2⟩
  · exact h.elim
/-- list(d) of a list, a tuple, or the keys of a dict -/
def bList : OpN
  | [d], m => match itemsM m d with
    | some xs => some (.loc m.length, m ++ [.lst xs])
    | none => match d with
      | .loc l => match m[l]? with
        | some (.dict kvs _) => some (.loc m.length, m ++ [.lst (kvs.map (·.1))])
        | _ => none
      | _ => none
  | _, _ => none
end
/-- Values that stand for data, as abstract values -/
theorem rvalues {G : Gx} {H : Hp} {β : List Pl} : ∀ {us : List Value} {ds : List D}, Paired (RValue G H β) us ds → ∃ vs, Vals vs us ∧ RVs G H β vs ds
  | _, _, .nil => ⟨[], .nil, RVs.nil⟩
  | _, _, .cons ⟨v, r1, r2⟩ t => by
    obtain ⟨vs, h1, h2⟩ := rvalues t
    exact ⟨v :: vs, .cons r1 h1, RVs.cons r2 h2⟩
theorem values_r {G : Gx} {H : Hp} {β : List Pl} : ∀ {vs : List V} {us : List Value} {ds : List D}, Vals vs us → RVs G H β vs ds → Paired (RValue G H β) us ds
  | _, _, [], .nil, h => .nil
  | _, _, [], .cons _ _, h => by simp [RVs] at h
  | _, _, d :: ds, .nil, h => by simp [RVs] at h
  | _, _, d :: ds, .cons r t, h => by
    obtain ⟨h1, h2⟩ := h.uncons
    exact .cons ⟨_, r, h1⟩ (values_r t h2)
theorem Paired.get1 {α γ : Type} {F : α → γ → Prop} : ∀ {l1 : List α} {l2 : List γ}, Paired F l1 l2 → l1.length = l2.length ∧ ∀ (i : Nat) (x : α) (y : γ), l1[i]? = some x → l2[i]? = some y → F x y
  | _, _, .nil => ⟨rfl, fun i x y h => by simp at h⟩
  | _, _, .cons r t => by
    obtain ⟨h1, h2⟩ := Paired.get1 t
    refine ⟨by simp [h1], fun i x y e1 e2 => ?_⟩
    cases i with
    | zero => simp at e1 e2; subst e1 e2; exact r
    | succ i => exact h2 i x y (by simpa using e1) (by simpa using e2)
theorem Paired.of_get {α γ : Type} {F : α → γ → Prop} : ∀ {l1 : List α} {l2 : List γ}, l1.length = l2.length → (∀ (i : Nat) (x : α) (y : γ), l1[i]? = some x → l2[i]? = some y → F x y) → Paired F l1 l2
  | [], [], _, _ => .nil
  | [], _ :: _, h, _ => by simp at h
  | _ :: _, [], h, _ => by simp at h
  | x :: xs, y :: ys, h, f => .cons (f 0 x y rfl rfl) (Paired.of_get (by simpa using h) fun i a b e1 e2 => f (i + 1) a b (by simpa using e1) (by simpa using e2))
/-- the keys that a walk yields -/
theorem keys_of {G : Gx} {H : Hp} {β : List Pl} {es : Array DictEntry} {kvs : List (D × D)} {acc : Array Value} (e : PE2 G H β es.toList kvs) (h : ItemsOf (fun i v => ∃ hi : i < es.size, v = es[i].key) acc es.size) : Paired (RValue G H β) acc.toList (kvs.map (·.1)) := by
  obtain ⟨h1, h2⟩ := h
  obtain ⟨l1, l2⟩ := Paired.get1 e
  refine Paired.of_get (by simp only [Array.length_toList, List.length_map]; rw [h1]; simpa using l1) fun i x y e1 e2 => ?_
  obtain ⟨hi, rfl⟩ := h2 i x (by simpa using e1)
  rw [List.getElem?_map] at e2
  obtain ⟨q, e3, rfl⟩ := Option.map_eq_some_iff.mp e2
  exact (l2 i es[i] q (by simp [hi]) e3).1
section
variable {G : Gx} {X : Cx}
theorem bList_ok (on : On G X) (hc : X.calm = true) : CallR X (.type "list") (rON G bList) := by
  intro pins s σ H xs us Q I r ⟨β, m, ds, rp, rv, h⟩
  unfold bList at h
  split at h
  · obtain ⟨v, rfl, q⟩ := rv.split1
    split at h
    · rename_i ys e
      obtain ⟨a, zs, rfl, h1, h2⟩ := itemsM_sq rp e q
      exact call_list_of pins s σ H _ us Q I r ⟨a, zs, rfl, h1.imp (fun z => on.K ▸ z) (fun z => on.K ▸ z), fun l hl => Post.lst h rp h2 hl⟩
    · split at h
      · split at h
        · rename_i kvs lk e
          obtain ⟨p, es, ep, rfl, _, hs, hl, h2, h3⟩ := rp.dict e q
          obtain ⟨u, rfl, ru⟩ := vals1 r
          cases ru
          have pe := ent_all h3
          have hle : es.size = kvs.length := by simpa using Paired.length pe
          obtain ⟨o, ep, z1, z2, z3⟩ := dictO_at I h2
          refine kdl_call (KdlSrc.rawDict (d := p) (es := es) (ep := ep) hs) (I.ok.hd hc) ⟨o, z1, z2, z3⟩ (by omega) fun h' tk acc' c' hk ho hi => ?_
          obtain ⟨vs, w1, w2⟩ := rvalues (keys_of pe hi)
          have hsz : acc'.size = kvs.length := by rw [hi.1, hle]
          have ob : ∀ H', ObjOk X.prog X.w H' h' s.heap.objs.size (.lst vs) := fun H' => ⟨by rw [w1.length]; simp [hsz]; omega, acc'.toList, c', w1, by simpa using ho⟩
          exact ⟨.ref _, upd H s.heap.objs.size (.lst vs), I.laid (t' := tk) hk (Nat.le_refl _) (ob _), rfl, Post.lst h rp w2 (I.hok.fresh (Nat.le_refl _))⟩
        · exact h.elim
      · exact h.elim
  · exact h.elim
end
end Mn
set_option Elab.async false
set_option linter.all false
set_option maxRecDepth 100000
set_option maxHeartbeats 1000000
/-! Mn8: sorted. -/
namespace Mn
open PySem L2 PySem.Spec PyProof.Rows PyProof.V PySem.W PySem.Calls
/-- what can be sorted: pure data, every two of which can be compared -/
def sortable (ds : List D) : Bool := ds.all (pureD 12) && ds.all fun a => ds.all fun b => comp (toPy a) (toPy b)
def leD (a b : D) : Bool := dataLe false toPy a b
def sortD (ds : List D) : List D := ds.mergeSort leD
theorem perm_each {α β : Type} {R : α → β → Prop} {l : List α} {m : List β} (h : EachIs R l m) : Paired R l m := by
  induction h with
  | nil => exact .nil
  | cons h t ih => exact .cons h ih
theorem each_paired {α β : Type} {R : α → β → Prop} {l : List α} {m : List β} (h : Paired R l m) : EachIs R l m := by
  induction h with
  | nil => exact .nil
  | cons h t ih => exact .cons h ih
theorem values_back {G : Gx} {H : Hp} {β : List Pl} : ∀ {us : List Value} {ds : List D}, Paired (RValue G H β) us ds → ∃ vs, Vals vs us ∧ RVs G H β vs ds
  | _, _, .nil => ⟨[], .nil, RVs.nil⟩
  | _, _, .cons h t => by
    obtain ⟨v, r1, r2⟩ := h
    obtain ⟨vs, h1, h2⟩ := values_back t
    exact ⟨v :: vs, .cons r1 h1, RVs.cons r2 h2⟩
section
variable {G : Gx} {X : Cx} {pins : List (Addr × Obj)} {σ : L2.St} {H H1 : Hp} {s : Shared} {β : List Pl} {m : Mem} {ds : List D}
theorem sort_end {Q : VK} {E : Value → Shared → Prop} {h' : Heap} {tk : Nat} {us : List Value} (on : On G X) (hu : X.A.units + 64 < cLine) (I1 : L2.Inv X pins σ H1 { s with heap := h', toks := tk }) (rp : Rp G H1 β m)
    (ru : Paired (RValue G H1 β) us ds) (hs : sortable ds = true) (hL : ds.length ≤ sizeLine) (h : Post G H1 β (m ++ [.lst (sortD ds)]) (.loc m.length) Q) :
    wpAny (model X.prog X.w) X.A.in1 (call (.builtin "list.sort") [.ref h'.objs.size]) (fun _ s' => EP X pins σ Q (.ref h'.objs.size) s') E { s with heap := h'.push { cls := .type "list", data := .seq us.toArray }, toks := tk } := by
  simp only [sortable, Bool.and_eq_true, List.all_eq_true] at hs
  obtain ⟨hp, hc⟩ := hs
  have pu : ∀ d ∈ ds, rd m 12 d = some (toPy d) := fun d hd => pure_rd 12 d (hp d hd)
  have hob : (h'.push { cls := .type "list", data := .seq us.toArray }).get? h'.objs.size = some (seqObj "list" us.toArray 0) := Heap.get?_push_size _ rfl
  have kb : ∀ b o, h'.get? b = some o → (h'.push { cls := .type "list", data := .seq us.toArray }).get? b = some o := fun b o e => Heap.get?_push_of_some _ e
  have ne0 : ∀ b o, h'.get? b = some o → b ≠ h'.objs.size := fun b o e => Nat.ne_of_lt (Heap.lt_size e)
  generalize hh2 : h'.push { cls := .type "list", data := .seq us.toArray } = h2 at hob kb ⊢
  have ev := each_paired ru
  refine sortC (s := { s with heap := h2, toks := tk }) (R := RValue G H1 β) (enc := toPy) hob ev ?_ ?_ ?_ hL ?_ fun out o1 o2 => ?_
  · refine (each_mem ev).mono fun u d q => ?_
    obtain ⟨⟨v, r1, r2⟩, hd⟩ := q
    obtain ⟨as, r⟩ := Dp.reads I1 _ _ _ (on.K ▸ rd_dp rp _ _ _ _ (pu d hd) r2) r1
    exact ⟨as, PyProof.Rows.Reads.keeps (fun b o e => sortingHeap_old (ne0 b o e) (kb b o e)) r⟩
  · intro d hd d' hd'
    obtain ⟨x, hx, rfl⟩ := List.mem_map.mp hd
    obtain ⟨y, hy, rfl⟩ := List.mem_map.mp hd'
    exact hc x hx y hy
  · exact fun d hd => (rd_ok 12 _ _ (pu d hd)).1
  · intro d hd
    have := (rd_ok 12 _ _ (pu d hd)).2
    have e : X.A.in1.units = X.A.units + 1 := rfl
    omega
  · show EP X pins σ Q (.ref h'.objs.size) { s with heap := sortedHeap h2 h'.objs.size us (List.toArray out), toks := tk }
    obtain ⟨vs, w1, w2⟩ := values_back (perm_each o2)
    have kF : ∀ b o, h'.get? b = some o → (sortedHeap h2 h'.objs.size us out.toArray).get? b = some o := fun b o e => (PyProof.Rows.sortedHeap_old (ne0 b o e) (Heap.lt_size (kb b o e))).trans (kb b o e)
    obtain ⟨eF, heF⟩ := PyProof.Rows.sortedHeap_at (vs := us) (out := out.toArray) hob
    have ob : ∀ H', ObjOk X.prog X.w H' (sortedHeap h2 h'.objs.size us out.toArray) h'.objs.size (.lst vs) := fun H' => ⟨by rw [w1.length]; omega, out, eF, w1, heF⟩
    exact ⟨.ref _, upd H1 h'.objs.size (.lst vs), I1.laid (t' := tk) kF (Nat.le_refl _) (ob _), rfl, Post.lst h rp w2 (I1.hok.fresh (Nat.le_refl _))⟩
/-- what sorted takes: a list, a tuple, a dict's keys -/
def seqD (m : Mem) : D → Option (List D)
  | .tup xs => some xs
  | .seq xs => some xs
  | .loc l => match m[l]? with
    | some (.lst xs) => some xs
    | some (.dict kvs _) => if kvs.length ≤ sizeLine then some (kvs.map (·.1)) else none
    | _ => none
  | _ => none
def bSorted : OpN
  | [d], m => match seqD m d with
    | some xs => if sortable xs = true ∧ xs.length ≤ sizeLine then some (.loc m.length, m ++ [.lst (sortD xs)]) else none
    | none => none
  | _, _ => none
/-- the items of it in the heap's terms -/
theorem seqD_cases {d : D} {xs : List D} {v : V} (rp : Rp G H β m) (h : seqD m d = some xs) (r : RV G H β v d) : (∃ a zs, v = .ref a ∧ (SqL G.K H a zs ∨ SqT G.K H a zs) ∧ RVs G H β zs xs) ∨
    ∃ p es ep kvs, v = .ref p ∧ xs = kvs.map (·.1) ∧ (p == sysModules) = false ∧ kvs.length ≤ sizeLine ∧ H p = some (dictO p es ep) ∧ (EntM G H β es kvs ∨ EntN G H β es kvs) := by
  unfold seqD at h
  split at h
  · exact .inl (itemsM_sq rp (by simpa [itemsM] using h) r)
  · exact .inl (itemsM_sq rp (by simpa [itemsM] using h) r)
  · split at h
    · rename_i e; exact .inl (itemsM_sq rp (by simpa [itemsM, e] using h) r)
    · rename_i kvs lk e
      split at h
      · simp only [Option.some.injEq] at h
        obtain ⟨p, es, ep, rfl, _, hs, hl, h2, h3⟩ := rp.dict e r
        exact .inr ⟨p, es, ep, kvs, rfl, h.symm, hs, hl, h2, h3⟩
      · cases h
    · cases h
  · cases h
/-- the sequence in the heap -/
theorem sq_there {K : PySem.W.Frag} {a : Addr} {zs : List V} (hk : X.K = K) (I : L2.Inv X pins σ H s) (h : SqL K H a zs ∨ SqT K H a zs) : ∃ (T : String) (o : Obj) (its : Array Value) (n : Nat), (T = "list" ∨ T = "tuple") ∧ s.heap.get? a = some o ∧ o.cls = .type T ∧ o.data = .seq its n ∧ its.size ≤ sizeLine ∧ Vals zs its.toList := by
  subst hk
  rcases h with h | h
  · obtain ⟨its, r, pl, hz⟩ := I.list h
    obtain ⟨o, ho, hc, n, hd⟩ := pl.isList
    exact ⟨"list", o, its.toArray, n, .inl rfl, ho, hc, hd, by rw [List.size_toArray, ← r.length]; exact hz, r⟩
  · obtain ⟨its, r, pl, hz⟩ := I.tuple h
    obtain ⟨o, ho, hc, n, hd⟩ := pl
    exact ⟨"tuple", o, its.toArray, n, .inr rfl, ho, hc, hd, by rw [List.size_toArray, ← r.length]; exact hz, r⟩
theorem bSorted_ok (on : On G X) (hc : X.calm = true) (hu : X.A.units + 64 < cLine) : CallR X (.builtin "sorted") (rON G bSorted) := by
  intro pins s σ H xs us Q I r ⟨β, m, ds, rp, rv, h⟩
  unfold bSorted at h
  split at h
  · obtain ⟨v, rfl, q⟩ := rv.split1
    obtain ⟨u, rfl, ru⟩ := vals1 r
    split at h
    · rename_i zs e
      split at h
      · rename_i c
        rcases seqD_cases rp e q with ⟨a, ws, rfl, h1, h2⟩ | ⟨p, es, ep0, kvs, rfl, rfl, hs, hl, h2, h3⟩
        · cases ru
          obtain ⟨T, o, its, n, hT, ho, hcl, hd, hz, hv⟩ := sq_there on.K I h1
          refine call_function_entry kind_sorted plain_sorted entry_sorted (args_sorted1 _) ?_
          unfold Builtin.«sorted»
          refine wpAny_bind (m := checkCount "sorted" 1 1 _) (wpAny_pure ?_)
          refine wpAny_bind (wpAny_collect_seq a hT ho hcl hd (fun h' hk => ?_) hz)
          refine wpAny_bind (wpAny_newList ?_ (by simpa using hz))
          refine wpAny_bind (wpAny_holding (wpAny_mono (sort_end (s := s) (h' := h') (tk := s.toks) on hu (I.kept (t' := s.toks) hk) rp (values_r hv h2) c.1 c.2 h) (fun _ s' x => ?_) fun _ _ e => e))
          exact wpAny_pure ⟨_, rfl, x⟩
        · cases ru
          have pe := ent_all h3
          have hle : es.size = kvs.length := by simpa using Paired.length pe
          obtain ⟨o, ep, z1, z2, z3⟩ := dictO_at I h2
          refine call_function_entry kind_sorted plain_sorted entry_sorted (args_sorted1 _) ?_
          unfold Builtin.«sorted»
          refine wpAny_bind (m := checkCount "sorted" 1 1 _) (wpAny_pure ?_)
          refine wpAny_bind (kdu_collect (KdlSrc.rawDict (d := p) (es := es) (ep := ep) hs) (I.ok.hd hc) ⟨o, z1, z2, z3⟩ (by omega) fun h' tk acc hk hi => ?_)
          have hsz : acc.size = kvs.length := by rw [hi.1, hle]
          refine wpAny_bind (wpAny_newList ?_ (by simp [hsz]; omega))
          refine wpAny_bind (wpAny_holding (wpAny_mono (sort_end (s := s) (h' := h') (tk := tk) on hu (I.kept (t' := tk) hk) rp (keys_of pe hi) c.1 c.2 h) (fun _ s' x => ?_) fun _ _ e => e))
          exact wpAny_pure ⟨_, rfl, x⟩
      · exact h.elim
    · exact h.elim
  · exact h.elim
end
/-! ### d.items() -/
def tItems (G : Gx) (W : WX) (fe : FE) (d : Den) : TE := fun σ H Q => ∃ β m ρ, Rp G H β m ∧ RS G H β σ ρ ∧ GoodO G (fun c d H' => W c d σ H') H β (fun d m' H' β' => ∃ l kvs lk, d = .loc l ∧ m'[l]? = some (.dict kvs lk) ∧ ∀ a p, β'[l]? = some (a, lk) → H' p = none → Q (.ref p) (upd H' p (DX.itemsO p a))) (d fe ρ m)
section
variable {G : Gx} {X : Cx} {W : WX} {fe : FE} {o : Expr} {d : Den} {apos cpos : Pos}
theorem pe_items (ho : PE X o (tE G W fe d)) (hbase : attributeBase o "items" X.env (eval o X.env) = eval o X.env) (hline : (apos.endLine == cpos.line) = true) : PE X (.Call (.Attribute o "items" apos) [] [] cpos) (tItems G W fe d) := by
  refine ⟨fun pins s σ H Q I h => ?_⟩
  obtain ⟨β, m, ρ, rp, rs, g⟩ := h
  refine wpAny_Call_method0_late hbase hline (thn (ho.run pins s σ H (fun v H1 => ∃ a es ep, v = .ref a ∧ (a == sysModules) = false ∧ H1 a = some (dictO a es ep) ∧ ∀ p, H1 p = none → Q (.ref p) (upd H1 p (DX.itemsO p a))) I ⟨β, m, ρ, rp, rs, (GoodO.mono g fun x m1 H1 β1 e1 rp1 g1 u ru => ?_).e⟩) fun v s1 ⟨x, H1, I1, r1, q1⟩ => ?_)
  · obtain ⟨l, kvs, lk, rfl, hm, hq⟩ := g1
    obtain ⟨a, es, ep, rfl, hb, hs, _, h2, _⟩ := rp1.dict hm ru
    exact ⟨a, es, ep, rfl, hs, h2, fun p hp => hq a p hb hp⟩
  · obtain ⟨a, es, ep, rfl, hs, h2, hq⟩ := q1
    cases r1
    obtain ⟨ob, ep, z1, z2, z3⟩ := dictO_at I1 h2
    refine ⟨"dict", "dict.items", PySem.F.plainAttrs_dict, PySem.F.slot_dict_items, PySem.F.type_dict_items, ⟨ob, z1, z2.1⟩, fun b e => ?_, Calls.callWith_builtin rfl (PySem.evalArgs_none ?_)⟩
    · cases e; exact ⟨ob, z1, z2.2.1⟩
    · refine DT.callItems (es := es) (ep := ep) hs ⟨ob, z1, z2, z3⟩ ?_
      exact ⟨.ref s1.heap.objs.size, upd H1 s1.heap.objs.size (DX.itemsO s1.heap.objs.size a), I1.laid (t' := s1.toks) (fun b u e => Heap.get?_push_of_some _ e) (Nat.le_refl _) (DX.itemsO_ok (Heap.get?_push_size _ rfl)), rfl, hq _ (I1.hok.fresh (Nat.le_refl _))⟩
end
/-- tuples already laid are tracked, with their objects -/
theorem takeF {X : Cx} {pins : List (Addr × Obj)} {σ : L2.St} {H0 : Hp} {s : Shared} {h' : Heap} {tk : Nat} {P : Addr → Obj → List V → Prop} (I0 : L2.Inv X pins σ H0 s) : ∀ (L : List Addr) (H1 : Hp), L2.Inv X pins σ H1 { s with heap := h', toks := tk } → L.Nodup →
    (∀ a ∈ L, s.heap.objs.size ≤ a ∧ H1 a = none ∧ ∃ o vs, P a o vs ∧ ∀ H2, ObjOk X.prog X.w H2 h' a (.frz o (.tup vs))) →
    ∃ H2, L2.Inv X pins σ H2 { s with heap := h', toks := tk } ∧ (∀ b o, H1 b = some o → H2 b = some o) ∧ ∀ a ∈ L, ∃ o vs, P a o vs ∧ H2 a = some (.frz o (.tup vs))
  | [], H1, I1, _, _ => ⟨H1, I1, fun _ _ e => e, fun _ h => nomatch h⟩
  | a :: L, H1, I1, hn, h => by
    obtain ⟨hb, hnone, o, vs, hP, ok⟩ := h a (List.mem_cons_self ..)
    have I2 : L2.Inv X pins σ (upd H1 a (.frz o (.tup vs))) { s with heap := h', toks := tk } := I1.take (h' := h') (t' := tk) (fun b ob _ e => e) (I0.fpOk hb hnone) (ok _)
    rw [List.nodup_cons] at hn
    obtain ⟨H2, I3, g, q⟩ := takeF I0 L _ I2 hn.2 fun c hc => by
      obtain ⟨c1, c2, c3⟩ := h c (List.mem_cons_of_mem _ hc)
      exact ⟨c1, by rw [upd_ne (fun z => hn.1 (by rw [← z]; exact hc))]; exact c2, c3⟩
    refine ⟨H2, I3, fun b o e => g b o (by rw [upd_ne (ne_of_none e hnone)]; exact e), fun c hc => ?_⟩
    rcases List.mem_cons.mp hc with rfl | hc
    · exact ⟨o, vs, hP, g _ _ upd_same⟩
    · exact q c hc
def pairD (q : D × D) : D := .tup [q.1, q.2]
def bSortItems : OpN
  | [.loc l], m => match m[l]? with
    | some (.dict kvs _) => if sortable (kvs.map pairD) = true ∧ kvs.length ≤ sizeLine then some (.loc m.length, m ++ [.lst (sortD (kvs.map pairD))]) else none
    | _ => none
  | _, _ => none
def rItems (G : Gx) (f : OpN) : List V → Hp → VK → Prop := fun vs H Q => ∃ p a β m l kvs lk, vs = [.ref p] ∧ H p = some (DX.itemsO p a) ∧ Rp G H β m ∧ m[l]? = some (.dict kvs lk) ∧ β[l]? = some (a, lk) ∧ PostO G H β Q (f [.loc l] m)
section
variable {G : Gx} {X : Cx} {pins : List (Addr × Obj)} {σ : L2.St} {H : Hp} {s : Shared} {β : List Pl} {m : Mem}
/-- the pairs that a walk over the view made -/
theorem pairs_made {es : Array DictEntry} {kvs : List (D × D)} {h' : Heap} {tk : Nat} {as : List Addr} (I : L2.Inv X pins σ H s) (rp : Rp G H β m) (pe : PE2 G H β es.toList kvs) (hk : ∀ b o, s.heap.get? b = some o → h'.get? b = some o) (hG : DT.Made es s.heap.objs.size h' as) (hl : as.length = es.size) :
    ∃ H2, L2.Inv X pins σ H2 { s with heap := h', toks := tk } ∧ Hle H H2 ∧ Paired (RValue G H2 β) (as.map Value.ref) (kvs.map pairD) := by
  have I1 : L2.Inv X pins σ H { s with heap := h', toks := tk } := I.kept (t' := tk) hk
  have nd : as.Nodup := List.Pairwise.imp (fun h => Nat.ne_of_lt h) hG.rise
  have ix : ∀ (j : Nat) (b : Addr), as[j]? = some b → ∃ (q : D × D) (u1 u2 : Value) (v1 v2 : V), kvs[j]? = some q ∧ RelV v1 u1 ∧ RelV v2 u2 ∧ RV G H β v1 q.1 ∧ RV G H β v2 q.2 ∧ h'.get? b = some { cls := .type "tuple", data := .seq #[u1, u2] } := by
    intro j b hj
    obtain ⟨en, he, hg⟩ := hG.pairs j b hj
    have hlt := (Array.getElem?_eq_some_iff.mp he).1
    obtain ⟨l1, l2⟩ := Paired.get1 pe
    have hkl : j < kvs.length := by rw [← l1]; simpa using hlt
    obtain ⟨⟨v1, a1, b1⟩, ⟨v2, a2, b2⟩⟩ := l2 j en kvs[j] (by simpa using he) (by simp [hkl])
    exact ⟨kvs[j], en.key, en.val, v1, v2, by simp [hkl], a1, a2, b1, b2, hg⟩
  obtain ⟨H2, I3, g, qt⟩ := takeF (P := fun b o vs => ∃ (j : Nat) (q : D × D) (v1 v2 : V), as[j]? = some b ∧ kvs[j]? = some q ∧ vs = [v1, v2] ∧ o.dict = none ∧ RV G H β v1 q.1 ∧ RV G H β v2 q.2) I as _ I1 nd fun b hb => by
    obtain ⟨j, hj⟩ := List.mem_iff_getElem?.mp hb
    obtain ⟨q, u1, u2, v1, v2, e1, a1, a2, b1, b2, hg⟩ := ix j b hj
    have hbl : s.heap.objs.size ≤ b := Nat.le_of_lt (hG.above b hb)
    exact ⟨hbl, I.hok.fresh hbl, _, [v1, v2], ⟨j, q, v1, v2, hj, e1, rfl, rfl, b1, b2⟩, fun H3 => ⟨hg, (by rw [sizeLine_eq]; show 2 ≤ 16777216; omega), [u1, u2], .cons a1 (.cons a2 .nil), ⟨_, hg, rfl, 0, rfl⟩⟩⟩
  have hle : Hle H H2 := g
  refine ⟨H2, I3, hle, Paired.of_get (by simp only [List.length_map]; rw [hl]; simpa using (Paired.get1 pe).1) fun i x y e1 e2 => ?_⟩
  rw [List.getElem?_map] at e1 e2
  obtain ⟨b, hb, rfl⟩ := Option.map_eq_some_iff.mp e1
  obtain ⟨q, hq, rfl⟩ := Option.map_eq_some_iff.mp e2
  obtain ⟨o, vs, ⟨j, q', v1, v2, j1, j2, rfl, od, r1, r2⟩, hH⟩ := qt b (List.mem_of_getElem? hb)
  have eij : i = j := (List.getElem?_inj (List.getElem?_eq_some_iff.mp hb).1 nd).mp (hb.trans j1.symm)
  subst eij
  have ee : q' = q := Option.some.inj (j2.symm.trans hq)
  subst ee
  refine ⟨.ref b, rfl, ?_⟩
  simp only [pairD, RV]
  exact ⟨b, [v1, v2], rfl, .inl ⟨o, hH, od⟩, RVs.cons (RV.mono hle.tl (BL.refl _) _ _ r1) (RVs.one (RV.mono hle.tl (BL.refl _) _ _ r2))⟩
theorem PostO.le {H1 : Hp} {Q : VK} {r : Option (D × Mem)} (h : PostO G H β Q r) (l : Hle H H1) : PostO G H1 β Q r := by
  cases r with
  | none => exact h
  | some p => exact fun u β' H' x => h u β' H' ((Ext.le l).trans x)
theorem cr_sortItems (on : On G X) (hc : X.calm = true) (hu : X.A.units + 64 < cLine) : CallR X (.builtin "sorted") (rItems G bSortItems) := by
  intro pins s σ H xs us Q I r ⟨p, a, β, m, l, kvs, lk, e, hp, rp, hm, hb, h⟩
  subst e
  obtain rfl := Vals.ref1 r
  have view : s.heap.IsItemsView p a := (show ObjOk X.prog X.w H s.heap p (DX.itemsO p a) from I.hok p _ hp).1
  obtain ⟨p', es, ep, e', hb', hs, hl, h2, h3⟩ := rp.dict hm (v := .ref a) (by simp only [RV]; exact ⟨a, lk, rfl, hb⟩)
  cases e'
  obtain ⟨o, ep, z1, z2, z3⟩ := dictO_at I h2
  have pe := ent_all h3
  have hle : es.size = kvs.length := by simpa using Paired.length pe
  simp only [bSortItems, hm] at h
  split at h
  · rename_i c
    refine DT.sortedI (es := es) (ep := ep) (I.ok.hd hc) view ⟨o, z1, z2, z3⟩ (by omega) fun h' tk as hk hlt hl' hG => ?_
    obtain ⟨H2, I2, g, pr⟩ := pairs_made (tk := tk) I rp pe hk hG hl'
    exact sort_end (s := s) (h' := h') (tk := tk) on hu I2 (rp.le g) pr c.1 (by simpa using c.2) (PostO.le (r := some _) h g)
  · exact h.elim
/-- f(d.items()) -/
def xItemsF (f : OpN) (a : Den) : Den := fun fe ρ m => (a fe ρ m).bind fun d m1 => match d with
  | .loc l => match m1[l]? with
    | some (.dict _ _) => .ofO (f [.loc l] m1)
    | _ => .bad
  | _ => .bad
variable {W : WX} {fe : FE} {o : Expr} {d : Den} {apos cpos pos q : Pos} {x : Str} {id T : String} {f : OpN}
theorem itemsF_red {Q : VK} (h : tE G W fe (xItemsF f d) σ H Q) : tCB (rItems G f) (tCons (tItems G W fe d) tNil) σ H Q := by
  obtain ⟨β, m, ρ, rp, rs, g⟩ := h
  refine ⟨β, m, ρ, rp, rs, GoodO.mono (GoodO.bind (GoodE.iff.mp g)) fun x m1 H1 β1 e1 rp1 g1 => ?_⟩
  cases x with
  | loc l =>
    simp only at g1
    split at g1
    · rename_i kvs lk e
      refine ⟨l, kvs, lk, rfl, e, fun a p ha hp => ?_⟩
      have hle := Hle.upd (o := DX.itemsO p a) hp
      exact ⟨p, a, β1, m1, l, kvs, lk, rfl, upd_same, rp1.le hle, e, ha, PostO.le (GoodE.ofO g1.e) hle⟩
    · exact False.elim g1
  | _ => exact False.elim g1
end
end Mn
set_option Elab.async false
set_option linter.all false
set_option maxRecDepth 100000
set_option maxHeartbeats 1000000
/-! Mn9: subscripts, slices, methods. -/
namespace Mn
open PySem L2 PySem.Spec PyProof.Rows PyProof.V PySem.W PySem.Calls
section
variable {G : Gx} {X : Cx} {W : WX} {fe : FE} {o e : Expr} {es : List Expr} {d da db : Den} {dA : DenA} {apos cpos pos q p2 : Pos} {x name : Str} {id T : String} {f : OpN}
theorem xsortItems_ok {xp : Pos} (on : On G X) (hc : X.calm = true) (hu : X.A.units + 64 < cLine) (hg : Gl X "sorted") (hm : X.mg "sorted" = none) (ho : PE X o (tE G W fe d)) (hbase : attributeBase o "items" X.env (eval o X.env) = eval o X.env) (hline : (apos.endLine == cpos.line) = true)
    (hdb : (("sorted" : Str) == ("__debug__" : Str)) = false) (hn : ("sorted" : Str) ≠ "__name__") (hv : bootBuiltins "sorted" = some (.builtin "sorted"))
    (hs : starEach [.Call (.Attribute o "items" apos) [] [] cpos] X.env = (false, eval (.Call (.Attribute o "items" apos) [] [] cpos) X.env) :: starEach [] X.env) (hpl : (backTo pos (starEach [] X.env)).any (·.1) = false) :
    PE X (.Call (.Name "sorted" xp) [.Call (.Attribute o "items" apos) [] [] cpos] [] pos) (tE G W fe (xItemsF bSortItems d)) :=
  PE.imp (pe_callB (cr_sortItems on hc hu) hg hm hv (pa_cons (pe_items ho hbase hline) pa_nil hs) hn hdb hs hpl) fun _ _ _ h => itemsF_red h
end
/-! ### a[b] -/
def opIx : Op2 := fun a k m => match a with
  | .str z => match k with
    | .int i => if z.length ≤ sizeLine then (atI z.cps.toList i).map fun c => (.str ⟨#[c]⟩, m) else none
    | _ => none
  | .loc l => match m[l]? with
    | some (.dict kvs _) => if kindOk kvs k = true then (dGet kvs k).map fun v => (v, m) else none
    | some (.lst xs) => match k with
      | .int i => (atI xs i).map fun v => (v, m)
      | _ => none
    | _ => none
  | .tup xs => match k with
    | .int i => (atI xs i).map fun v => (v, m)
    | _ => none
  | .seq xs => match k with
    | .int i => (atI xs i).map fun v => (v, m)
    | _ => none
  | _ => none
theorem RVs.atI {G : Gx} {H : Hp} {β : List Pl} {ds : List D} {vs : List V} {i : Int} {d : D} (h : RVs G H β vs ds) (e : atI ds i = some d) : ∃ v, L2.atI vs i = some v ∧ RV G H β v d := by
  unfold L2.atI at e ⊢
  rw [h.length]
  cases q : ixN ds.length i with
  | none => rw [q] at e; cases e
  | some j =>
    rw [q] at e
    exact h.get (show ds[j]? = some d from e)
section
variable {G : Gx} {X : Cx}
theorem opIx_ok (on : On G X) (hu : X.A.units + 64 < cLine) : IxR X (rO2 G opIx) := by
  intro value slice pins s σ H x y v u Q I rx ry ⟨β, m, a, k, rp, ra, rk, h⟩ hs
  have seqs : ∀ {ds : List D} {i : Int} {p : Addr} {zs : List V}, x = .ref p → (SqL G.K H p zs ∨ SqT G.K H p zs) → RVs G H β zs ds → y = .int i → PostO G H β Q ((atI ds i).map fun v => (v, m)) → wpAny (model X.prog X.w) X.A (subscriptTail value slice v u) (EP X pins σ Q) X.xe s := by
    intro ds i p zs hx hq hz hy hp
    subst hx hy
    cases e : atI ds i with
    | none => rw [e] at hp; exact hp.elim
    | some d =>
      rw [e] at hp
      obtain ⟨w, e1, r1⟩ := hz.atI e
      rcases hq with hq | hq
      · exact ix_list value slice pins s σ H _ _ v u Q I rx ry ⟨p, zs, i, w, rfl, rfl, on.K ▸ hq, e1, Post.same hp rp r1⟩ hs
      · exact ix_tup value slice pins s σ H _ _ v u Q I rx ry ⟨p, zs, i, w, rfl, rfl, on.K ▸ hq, e1, Post.same hp rp r1⟩ hs
  unfold opIx at h
  split at h
  · split at h
    · split at h
      · rename_i z _ i c
        simp only [RV] at ra rk; subst ra rk
        cases e : atI z.cps.toList i with
        | none => rw [e] at h; exact h.elim
        | some ch =>
          rw [e] at h
          exact ix_str value slice pins s σ H _ _ v u Q I rx ry ⟨z, i, ch, rfl, rfl, c, e, Post.str h rp⟩ hs
      · exact h.elim
    · exact h.elim
  · split at h
    · rename_i kvs lk e
      split at h
      · rename_i hk
        obtain ⟨p, es, ep, rfl, _, hsy, hl, h2, h3⟩ := rp.dict e ra
        cases hd : dGet kvs k with
        | none => rw [hd] at h; exact h.elim
        | some d =>
          rw [hd] at h
          cases rx
          obtain ⟨ob, ep, z1, z2, z3⟩ := dictO_at I h2
          refine tail_any (T := "dict") ⟨ob, z1, z2.1⟩ slot_dict_getitem.lookup ?_ hs
          exact dget_ok on hu I h2 h3 hk rk ry hd fun z w s' I' rz rv => ⟨z, H, I', rz, Post.same h rp rv⟩
      · exact h.elim
    · rename_i xs e
      split at h
      · obtain ⟨p, zs, rfl, _, h1, h2⟩ := rp.lst e ra
        simp only [RV] at rk
        exact seqs rfl (.inl (SqL.of h1)) h2 rk h
      · exact h.elim
    · exact h.elim
  · split at h
    · simp only [RV] at ra rk
      obtain ⟨p, zs, e, h1, h2⟩ := ra
      exact seqs e (.inr h1.sq) h2 rk h
    · exact h.elim
  · split at h
    · simp only [RV] at ra rk
      obtain ⟨p, zs, e, h1, h2⟩ := ra
      exact seqs e (.inl h1.sq) h2 rk h
    · exact h.elim
  · exact h.elim
end
section
variable {G : Gx} {X : Cx} {W : WX} {fe : FE} {a b : Expr} {da db : Den} {pos p2 : Pos}
theorem xix_ok (on : On G X) (hu : X.A.units + 64 < cLine) (ha : PE X a (tE G W fe da)) (hb : PE X b (tE G W fe db)) (hs : PlainIx b) : PE X (.Subscript a b pos) (tE G W fe (xBin opIx da db)) :=
  PE.imp (pe_ix (opIx_ok on hu) ha hb hs) fun _ _ _ h => bin_red (fun _ _ _ _ x => x) h
end
/-! ### a[lo:hi] -/
def cutD {α : Type} (xs : List α) (lo hi : Option Int) : List α := (xs.drop (HT.sIx xs.length 0 lo)).take (HT.sIx xs.length xs.length hi - HT.sIx xs.length 0 lo)
def opSl (a : D) (lo hi : Option Int) (m : Mem) : Option (D × Mem) := match a with
  | .str z => if z.length ≤ sizeLine then some (.str (L2.cutS z lo hi), m) else none
  | .tup xs => some (.tup (cutD xs lo hi), m)
  | .seq xs => some (.loc m.length, m ++ [.lst (cutD xs lo hi)])
  | .loc l => match m[l]? with
    | some (.lst xs) => some (.loc m.length, m ++ [.lst (cutD xs lo hi)])
    | _ => none
  | _ => none
theorem RVs.cutD {G : Gx} {H : Hp} {β : List Pl} {ds : List D} {vs : List V} (h : RVs G H β vs ds) (lo hi : Option Int) : RVs G H β (cutV vs lo hi) (Mn.cutD ds lo hi) := by
  unfold L2.cutV Mn.cutD
  rw [h.length]
  exact (h.drop _).take _
def rSlM (G : Gx) : V → Option Int → Option Int → Hp → VK → Prop := fun x lo hi H Q => ∃ β m a, Rp G H β m ∧ RV G H β x a ∧ PostO G H β Q (opSl a lo hi m)
section
variable {G : Gx} {X : Cx}
theorem opSl_ok (on : On G X) : SlR X (rSlM G) := by
  intro pins s σ H x v vl vu lo hi sl Q I rx hs pl pu ⟨β, m, a, rp, ra, h⟩
  unfold opSl at h
  split at h
  · rename_i z
    split at h
    · rename_i c
      simp only [RV] at ra; subst ra
      exact sl_str pins s σ H _ v vl vu lo hi sl Q I rx hs pl pu ⟨z, rfl, c, Post.str h rp⟩
    · exact h.elim
  · rename_i xs
    simp only [RV] at ra
    obtain ⟨p, zs, rfl, h1, h2⟩ := ra
    refine sl_tupF pins s σ H _ v vl vu lo hi sl Q I rx hs pl pu ⟨p, zs, rfl, on.K ▸ h1.sq, fun hw => ?_, fun _ l ob hl ho => Post.tup h rp (h2.cutD lo hi) hl ho⟩
    refine Post.same h rp ?_
    simp only [RV]
    refine ⟨p, zs, rfl, h1, ?_⟩
    have e : cutV zs lo hi = zs := by
      unfold cutV
      rw [hw.1, hw.2]
      simp
    have := h2.cutD lo hi
    rw [e] at this
    exact this
  · simp only [RV] at ra
    obtain ⟨p, zs, rfl, h1, h2⟩ := ra
    exact sl_list pins s σ H _ v vl vu lo hi sl Q I rx hs pl pu ⟨p, zs, rfl, on.K ▸ h1.sq, fun l hl => Post.lst h rp (h2.cutD lo hi) hl⟩
  · split at h
    · rename_i e
      obtain ⟨p, zs, rfl, _, h1, h2⟩ := rp.lst e ra
      exact sl_list pins s σ H _ v vl vu lo hi sl Q I rx hs pl pu ⟨p, zs, rfl, SqL.of h1, fun l hl => Post.lst h rp (h2.cutD lo hi) hl⟩
    · exact h.elim
  · exact h.elim
end
abbrev DenO := FE → Env → Mem → Out (Option Int)
def oNone : DenO := fun _ _ m => .ok none m
def oSome (a : Den) : DenO := fun fe ρ m => (a fe ρ m).bind fun x m1 => match x with
  | .int i => .ok (some i) m1
  | _ => .bad
def xSl (a : Den) (lo hi : DenO) : Den := fun fe ρ m => (a fe ρ m).bind fun x m1 => (lo fe ρ m1).bind fun l m2 => (hi fe ρ m2).bind fun h m3 => .ofO (opSl x l h m3)
def tOd (G : Gx) (W : WX) (fe : FE) (d : DenO) : TO := fun σ H Q => ∃ β m ρ, Rp G H β m ∧ RS G H β σ ρ ∧ GoodO G (fun c d H' => W c d σ H') H β (fun b _ H' _ => Q b H') (d fe ρ m)
section
variable {G : Gx} {X : Cx} {W : WX} {fe : FE} {a b : Expr} {da db : Den} {pos p2 : Pos} {lo hi : Option Expr} {dl dh : DenO}
theorem PO.imp {e : Option Expr} {t t' : TO} (h : PO X e t) (f : ∀ σ H Q, t' σ H Q → t σ H Q) : PO X e t' := ⟨fun pins s σ H Q I x => h.run pins s σ H Q I (f σ H Q x)⟩
theorem onone_ok : PO X none (tOd G W fe oNone) := PO.imp po_none fun σ H Q ⟨β, m, ρ, rp, rs, g⟩ => g β H Ext.refl rp
theorem osome_ok (ha : PE X a (tE G W fe da)) : PO X (some a) (tOd G W fe (oSome da)) := PO.imp (po_some ha) fun σ H Q h => by
  obtain ⟨β, m, ρ, rp, rs, g⟩ := h
  refine ⟨β, m, ρ, rp, rs, (GoodO.mono (GoodO.bind g) fun x m1 H1 β1 e1 rp1 g1 u ru => ?_).e⟩
  cases x with
  | int i => simp only [RV] at ru; subst ru; exact ⟨i, rfl, g1 β1 H1 Ext.refl rp1⟩
  | _ => exact False.elim g1
theorem xsl_ok (on : On G X) (ha : PE X a (tE G W fe da)) (hl : PO X lo (tOd G W fe dl)) (hh : PO X hi (tOd G W fe dh)) : PE X (.Subscript a (.Slice lo hi none p2) pos) (tE G W fe (xSl da dl dh)) := PE.imp (pe_slice (opSl_ok on) ha hl hh) fun σ H Q h => by
  obtain ⟨β, m, ρ, rp, rs, g⟩ := h
  refine ⟨β, m, ρ, rp, rs, (GoodO.mono (GoodO.bind (GoodE.iff.mp g)) fun x m1 H1 β1 e1 rp1 g1 u ru => ?_).e⟩
  refine ⟨β1, m1, ρ, rp1, rs.ext rp e1, GoodO.mono (GoodO.bind g1) fun l m2 H2 β2 e2 rp2 g2 => ?_⟩
  refine ⟨β2, m2, ρ, rp2, (rs.ext rp e1).ext rp1 e2, GoodO.mono (GoodO.bind g2) fun h m3 H3 β3 e3 rp3 g3 => ?_⟩
  exact ⟨β3, m3, x, rp3, RV.mono (e3.tl rp2) e3.bl _ _ (RV.mono (e2.tl rp1) e2.bl _ _ ru), GoodE.ofO g3.e⟩
end
/-! ### o.m(..) -/
/-- the type of a value that has methods -/
def tyD (m : Mem) : D → String
  | .str _ => "str"
  | .tup _ => "tuple"
  | .seq _ => "list"
  | .loc l => match m[l]? with
    | some (.lst _) => "list"
    | some (.dict _ _) => "dict"
    | _ => ""
  | _ => ""
abbrev OpM := D → OpN
def xMeth (fs : List (String × OpM)) (o : Den) (a : DenA) : Den := fun fe ρ m => (o fe ρ m).bind fun d m1 => match fs.lookup (tyD m1 d) with
  | some f => (a fe ρ m1).bind fun ds m2 => .ofO (f d ds m2)
  | none => .bad
/-- the method name of the type T does f -/
def MtD (G : Gx) (X : Cx) (name : Str) (T : String) (f : OpM) : Prop := ∃ id, PlainAttrs T ∧ Slot T name id ∧ typeOf (.builtin id) = pure (.type "method_descriptor") ∧
  ∀ (pins : List (Addr × Obj)) (s : Shared) (σ : L2.St) (H : Hp) (x : V) (xs : List V) (v : Value) (us : List Value) (Q : VK), L2.Inv X pins σ H s → RelV x v → Vals xs us → (∃ β m d ds, Rp G H β m ∧ RV G H β x d ∧ RVs G H β xs ds ∧ PostO G H β Q (f d ds m)) →
    wpAny (model X.prog X.w) X.A (call (.builtin id) (v :: us)) (EP X pins σ Q) X.xe s
section
variable {G : Gx} {X : Cx} {pins : List (Addr × Obj)} {σ : L2.St} {H : Hp} {s : Shared} {β : List Pl} {m : Mem}
theorem FzL.obj {a : Addr} {xs : List V} (hk : X.K = G.K) (I : L2.Inv X pins σ H s) (h : FzL G.K H a xs) : ∃ o, s.heap.get? a = some o ∧ o.cls = .type "list" ∧ o.dict = none := by
  obtain ⟨its, _, ⟨o, n, e, c, hd, _⟩, _⟩ := I.list (hk ▸ h.sq)
  exact ⟨o, e, c, hd⟩
theorem FzT.obj {a : Addr} {xs : List V} (hk : X.K = G.K) (I : L2.Inv X pins σ H s) (h : FzT G.K H a xs) : ∃ o, s.heap.get? a = some o ∧ o.cls = .type "tuple" ∧ o.dict = none := by
  rcases h with ⟨o, h, hd⟩ | ⟨o, its, n, h1, h2, h3, _⟩
  · obtain ⟨e, _, its, _, ob, e', c, _⟩ := I.hok a _ h
    rw [e] at e'
    cases e'
    exact ⟨o, e, c, hd⟩
  · exact ⟨o, I.kIn a o (hk ▸ h1), h2, h3⟩
theorem tyD_is {d : D} {x : V} {v : Value} {T : String} (on : On G X) (I : L2.Inv X pins σ H s) (rp : Rp G H β m) (rx : RelV x v) (rd : RV G H β x d) (h : tyD m d = T) (hn : T ≠ "") :
    s.TypeIs v T ∧ ∀ a, v = .ref a → ∃ ob, s.heap.get? a = some ob ∧ ob.dict = none := by
  cases d with
  | str z =>
    simp only [RV] at rd; subst rd
    obtain ⟨t, rfl⟩ := rx
    subst h
    exact ⟨typeIs_str s z t, fun _ e => nomatch e⟩
  | tup ds =>
    simp only [RV] at rd
    obtain ⟨a, xs, rfl, h1, _⟩ := rd
    cases rx
    subst h
    obtain ⟨o, e, c, hd⟩ := h1.obj on.K I
    exact ⟨⟨o, e, c⟩, fun b q => by cases q; exact ⟨o, e, hd⟩⟩
  | seq ds =>
    simp only [RV] at rd
    obtain ⟨a, xs, rfl, h1, _⟩ := rd
    cases rx
    subst h
    obtain ⟨o, e, c, hd⟩ := h1.obj on.K I
    exact ⟨⟨o, e, c⟩, fun b q => by cases q; exact ⟨o, e, hd⟩⟩
  | loc l =>
    simp only [tyD] at h
    split at h
    · rename_i xs e
      obtain ⟨p, zs, rfl, _, h1, h2⟩ := rp.lst e rd
      cases rx
      subst h
      obtain ⟨its, _, ⟨o, n, e, c, hd, _⟩, _⟩ := I.list (SqL.of (K := X.K) h1)
      exact ⟨⟨o, e, c⟩, fun b q => by cases q; exact ⟨o, e, hd⟩⟩
    · rename_i kvs lk e
      obtain ⟨p, es, ep, rfl, _, _, _, h2, _⟩ := rp.dict e rd
      cases rx
      subst h
      obtain ⟨o, ep, z1, z2, z3⟩ := dictO_at I h2
      exact ⟨⟨o, z1, z2.1⟩, fun b q => by cases q; exact ⟨o, z1, z2.2.1⟩⟩
    · exact absurd h.symm hn
  | _ => exact absurd h.symm hn
variable {W : WX} {fe : FE} {o e : Expr} {es : List Expr} {d : Den} {dA : DenA} {apos cpos : Pos} {name : Str} {fs : List (String × OpM)}
theorem meth_red {Q : VK} (h : tE G W fe (xMeth fs d dA) σ H Q) : tE G W fe d σ H fun x H1 => ∃ β1 m1 ρ D1 f, Rp G H1 β1 m1 ∧ RS G H1 β1 σ ρ ∧ RV G H1 β1 x D1 ∧ (tyD m1 D1, f) ∈ fs ∧ GoodO G (fun c d H' => W c d σ H') H1 β1 (fun ds m2 H2 β2 => RV G H2 β2 x D1 ∧ Rp G H2 β2 m2 ∧ PostO G H2 β2 Q (f D1 ds m2)) (dA fe ρ m1) := by
  obtain ⟨β, m, ρ, rp, rs, g⟩ := h
  refine ⟨β, m, ρ, rp, rs, (GoodO.mono (GoodO.bind (GoodE.iff.mp g)) fun x m1 H1 β1 e1 rp1 g1 u ru => ?_).e⟩
  cases q : fs.lookup (tyD m1 x) with
  | none => rw [q] at g1; exact False.elim g1
  | some f =>
    rw [q] at g1
    refine ⟨β1, m1, ρ, x, f, rp1, rs.ext rp e1, ru, ?_, GoodO.mono (GoodO.bind g1) fun ds m2 H2 β2 e2 rp2 g2 => ⟨RV.mono (e2.tl rp1) e2.bl _ _ ru, rp2, GoodE.ofO g2.e⟩⟩
    clear g1 g
    induction fs with
    | nil => simp at q
    | cons y ys ih =>
      obtain ⟨k, g⟩ := y
      rw [List.lookup_cons] at q
      by_cases c : (tyD m1 x == k) = true
      · rw [c] at q
        simp only [Option.some.injEq] at q
        have : tyD m1 x = k := by simpa using c
        rw [this, ← q]
        exact List.mem_cons_self
      · simp only [Bool.not_eq_true] at c
        rw [c] at q
        exact List.mem_cons_of_mem _ (ih q)
theorem xmeth_ok (on : On G X) (hm : ∀ T f, (T, f) ∈ fs → MtD G X name T f ∧ T ≠ "") (ho : PE X o (tE G W fe d)) (ha : PA X (e :: es) (tA G W fe dA)) (hbase : attributeBase o name X.env (eval o X.env) = eval o X.env)
    (hfew : ((backTo cpos (starEach (e :: es) X.env)).all (fun x => !x.1) && (backToKw cpos (keywordEach [] X.env)).all (fun x => x.1.isSome)
      && decide ((e :: es).length + ([] : List Keyword).length + (if ([] : List Keyword).isEmpty then 0 else 1) < 30)) = true)
    (hline : (apos.endLine == cpos.line) = true) (hs : starEach (e :: es) X.env = (false, eval e X.env) :: starEach es X.env) (hplain : (backTo cpos (starEach es X.env)).any (·.1) = false) :
    PE X (.Call (.Attribute o name apos) (e :: es) [] cpos) (tE G W fe (xMeth fs d dA)) := by
  refine ⟨fun pins s σ H Q I h => ?_⟩
  refine wpAny_Call_method_late hbase hfew hline rfl (thn (ho.run pins s σ H _ I (meth_red h)) fun v s1 ⟨x, H1, I1, r1, β1, m1, ρ, D1, f, rp1, rs1, rd1, hf, g1⟩ => ?_)
  obtain ⟨⟨id, pa, slot, hty, run⟩, hne⟩ := hm _ _ hf
  obtain ⟨h1, h2⟩ := tyD_is on I1 rp1 r1 rd1 rfl hne
  refine ⟨_, id, pa, slot, hty, h1, h2, ?_⟩
  have hA := ha.run cpos pins s1 σ H1 (fun xs H2 => ∃ β2 m2 ds, RV G H2 β2 x D1 ∧ Rp G H2 β2 m2 ∧ RVs G H2 β2 xs ds ∧ PostO G H2 β2 Q (f D1 ds m2)) I1 ⟨β1, m1, ρ, rp1, rs1, GoodO.mono g1 fun ds m2 H2 β2 e2 rp2 g2 vs rvs => ⟨β2, m2, ds, g2.1, g2.2.1, rvs, g2.2.2⟩⟩
  rw [hs] at hA ⊢
  refine Calls.callWith_builtin (by show (false || (backTo cpos (starEach es X.env)).any (·.1)) = false; rw [hplain] <;> rfl) (Calls.evalArgs_plain ?_)
  exact thn hA fun us s2 ⟨vs, H2, I2, r2, β2, m2, ds, k1, k2, k3, k4⟩ => run pins s2 σ H2 x vs v us Q I2 r1 r2 ⟨β2, m2, D1, ds, k2, k1, k3, k4⟩
theorem xmeth0_ok (on : On G X) (hm : ∀ T f, (T, f) ∈ fs → MtD G X name T f ∧ T ≠ "") (ho : PE X o (tE G W fe d)) (hbase : attributeBase o name X.env (eval o X.env) = eval o X.env) (hline : (apos.endLine == cpos.line) = true) :
    PE X (.Call (.Attribute o name apos) [] [] cpos) (tE G W fe (xMeth fs d aNil)) := by
  refine ⟨fun pins s σ H Q I h => ?_⟩
  refine wpAny_Call_method0_late hbase hline (thn (ho.run pins s σ H _ I (meth_red h)) fun v s1 ⟨x, H1, I1, r1, β1, m1, ρ, D1, f, rp1, rs1, rd1, hf, g1⟩ => ?_)
  obtain ⟨⟨id, pa, slot, hty, run⟩, hne⟩ := hm _ _ hf
  obtain ⟨h1, h2⟩ := tyD_is on I1 rp1 r1 rd1 rfl hne
  obtain ⟨k1, k2, k3⟩ := g1 β1 H1 Ext.refl rp1
  exact ⟨_, id, pa, slot, hty, h1, h2, Calls.callWith_builtin rfl (PySem.evalArgs_none (run pins s1 σ H1 x [] v [] Q I1 r1 .nil ⟨β1, m1, D1, [], k2, k1, RVs.nil, k3⟩))⟩
end
end Mn
set_option Elab.async false
set_option linter.all false
set_option maxRecDepth 100000
set_option maxHeartbeats 1000000
/-! Mn10: methods. -/
namespace Mn
open PySem L2 PySem.Spec PyProof.Rows PyProof.V PySem.W PySem.Calls PySem.SeqAt
section
variable {G : Gx} {H : Hp} {β : List Pl} {m : Mem} {Q : VK}
theorem Post.wlst {l : Nat} {a : Addr} {xs' : List V} {ds' : List D} {d : D} {v : V} (h : Post G H β (m.set l (.lst ds')) d Q) (r : Rp G H β m) (ha : β[l]? = some (a, false)) (rv : RVs G H β xs' ds') (rd : RV G H β v d) : Q v (upd H a (.lst xs')) := by
  have x := Ext.write (H := H) (ob := .lst xs') ha
  have t := x.tl r
  exact h v β _ x (r.write ha rfl ⟨xs', upd_same, RVs.mono t (BL.refl _) _ _ rv⟩) (RV.mono t (BL.refl _) _ _ rd)
end
/-! ### lists that are written -/
def fAppend : OpM := fun d ds m => match d, ds with
  | .loc l, [y] => match m[l]? with
    | some (.lst xs) => if xs.length < sizeLine then some (.non, m.set l (.lst (xs ++ [y]))) else none
    | _ => none
  | _, _ => none
def fExtend : OpM := fun d ds m => match d, ds with
  | .loc l, [.loc k] => match m[l]?, m[k]? with
    | some (.lst xs), some (.lst ys) => if xs.length + ys.length ≤ sizeLine then some (.non, m.set l (.lst (xs ++ ys))) else none
    | _, _ => none
  | _, _ => none
def fPop : OpM := fun d ds m => match d, ds with
  | .loc l, [] => match m[l]? with
    | some (.lst xs) => (xs[xs.length - 1]?).map fun y => (y, m.set l (.lst xs.dropLast))
    | _ => none
  | .loc l, [.int 0] => match m[l]? with
    | some (.lst (y :: xs)) => some (y, m.set l (.lst xs))
    | _ => none
  | _, _ => none
section
variable {G : Gx} {X : Cx}
theorem nonRV {H : Hp} {β : List Pl} : RV G H β .non .non := by simp [RV]
theorem fAppend_ok (on : On G X) : MtD G X "append" "list" fAppend := by
  refine ⟨"list.append", PySem.F.plainAttrs_list, PySem.F.slot_list_append, PySem.F.type_list_append, fun pins s σ H x xs v us Q I rx rxs ⟨β, m, d, ds, rp, rd, rds, h⟩ => ?_⟩
  unfold fAppend at h
  split at h
  · split at h
    · rename_i l y ys e
      split at h
      · rename_i c
        obtain ⟨p, zs, rfl, ha, h1, h2⟩ := rp.lst e rd
        obtain ⟨w, rfl, rw'⟩ := rds.split1
        exact mt_append pins s σ H _ _ v us Q I rx rxs ⟨p, zs, w, rfl, rfl, h1, by rw [h2.length]; exact c, Post.wlst h rp ha (h2.append (RVs.one rw')) nonRV⟩
      · exact h.elim
    · exact h.elim
  · exact h.elim
theorem fExtend_ok (on : On G X) : MtD G X "extend" "list" fExtend := by
  refine ⟨"list.extend", PySem.F.plainAttrs_list, PySem.F.slot_list_extend, PySem.F.type_list_extend, fun pins s σ H x xs v us Q I rx rxs ⟨β, m, d, ds, rp, rd, rds, h⟩ => ?_⟩
  unfold fExtend at h
  split at h
  · split at h
    · rename_i l k ys zs e1 e2
      split at h
      · rename_i c
        obtain ⟨p, vs, rfl, ha, h1, h2⟩ := rp.lst e1 rd
        obtain ⟨w, rfl, rw'⟩ := rds.split1
        obtain ⟨q, ws, rfl, _, h3, h4⟩ := rp.lst e2 rw'
        exact mt_extend pins s σ H _ _ v us Q I rx rxs ⟨p, q, vs, ws, rfl, rfl, h1, h3, by rw [h2.length, h4.length]; exact c, Post.wlst h rp ha (h2.append h4) nonRV⟩
      · exact h.elim
    · exact h.elim
  · exact h.elim
theorem RVs.dropLast {H : Hp} {β : List Pl} {ds : List D} {vs : List V} (h : RVs G H β vs ds) : RVs G H β vs.dropLast ds.dropLast := by
  rw [List.dropLast_eq_take, List.dropLast_eq_take, h.length]
  exact h.take _
theorem fPop_ok (on : On G X) : MtD G X "pop" "list" fPop := by
  refine ⟨"list.pop", PySem.F.plainAttrs_list, PySem.F.slot_list_pop, PySem.F.type_list_pop, fun pins s σ H x xs v us Q I rx rxs ⟨β, m, d, ds, rp, rd, rds, h⟩ => ?_⟩
  unfold fPop at h
  split at h
  · split at h
    · rename_i ys e
      obtain ⟨p, vs, rfl, ha, h1, h2⟩ := rp.lst e rd
      simp only [RVs] at rds; subst rds
      cases q : ys[ys.length - 1]? with
      | none => rw [q] at h; exact h.elim
      | some y =>
        rw [q] at h
        obtain ⟨w, e1, r1⟩ := h2.get q
        exact mt_pop pins s σ H _ _ v us Q I rx rxs ⟨p, vs, w, rfl, rfl, h1, by rw [h2.length]; exact e1, Post.wlst h rp ha h2.dropLast r1⟩
    · exact h.elim
  · split at h
    · rename_i y ys e
      obtain ⟨p, vs, rfl, ha, h1, h2⟩ := rp.lst e rd
      obtain ⟨w, rfl, rw'⟩ := rds.split1
      simp only [RV] at rw'; subst rw'
      cases vs with
      | nil => simp [RVs] at h2
      | cons z zs =>
        obtain ⟨r1, r2⟩ := h2.uncons
        refine mt_popAt pins s σ H _ _ v us Q I rx rxs ⟨p, z :: zs, 0, 0, z, rfl, rfl, h1, by decide, by decide, ?_, rfl, Post.wlst h rp ha r2 r1⟩
        simp [seqIndex?]
    · exact h.elim
  · exact h.elim
end
/-! ### index, count -/
def fIndexL : OpM := fun d ds m => match ds with
  | [y] => match listM m d with
    | some xs => if pureD 12 y = true ∧ pureDs 11 xs = true then (xs.findIdx? fun z => eqv z y).map fun j => (.int (j : Nat), m) else none
    | none => none
  | _ => none
def fIndexT : OpM := fun d ds m => match d, ds with
  | .tup xs, [y] => if pureD 12 y = true ∧ pureDs 11 xs = true then (xs.findIdx? fun z => eqv z y).map fun j => (.int (j : Nat), m) else none
  | _, _ => none
def fCountL : OpM := fun d ds m => match ds with
  | [y] => match listM m d with
    | some xs => if pureD 12 y = true ∧ pureDs 11 xs = true then some (.int ((xs.countP fun z => eqv z y : Nat) : Int), m) else none
    | none => none
  | _ => none
def fCountT : OpM := fun d ds m => match d, ds with
  | .tup xs, [y] => if pureD 12 y = true ∧ pureDs 11 xs = true then some (.int ((xs.countP fun z => eqv z y : Nat) : Int), m) else none
  | _, _ => none
section
variable {G : Gx} {X : Cx} {pins : List (Addr × Obj)} {σ : L2.St} {H : Hp} {s : Shared} {β : List Pl} {m : Mem}
theorem reads_items {zs : List V} {us : List Value} {xs : List D} (on : On G X) (I : L2.Inv X pins σ H s) (rp : Rp G H β m) (hp : pureDs 11 xs = true) (rv : RVs G H β zs xs) (r : Vals zs us) : ∃ as, ReadsAll s.heap us (toPys xs) as := by
  have := rd_dps (fun d x v => rd_dp rp 11 d x v) (mapM_some (pure_rds (m := m) 11 xs hp)) rv
  exact Dp.readsAll I _ _ _ (on.K ▸ this) r
theorem reads_one {x : V} {u : Value} {d : D} (on : On G X) (I : L2.Inv X pins σ H s) (rp : Rp G H β m) (hp : pureD 12 d = true) (rv : RV G H β x d) (r : RelV x u) : ∃ as, Reads s.heap u (toPy d) as :=
  Dp.reads I _ _ _ (on.K ▸ rd_dp rp _ _ _ _ (pure_rd 12 d hp) rv) r
theorem pures_lay {xs : List D} (hp : pureDs 11 xs = true) : PyData.canLayAll0 (toPys xs) = true ∧ PyData.depthAll (toPys xs) ≤ 11 := by
  have := rd_ok (m := []) 12 (.tup xs) (.tuple (toPys xs)) (by rw [pure_rd 12 (.tup xs) (by simpa [pureD] using hp)]; simp [toPy])
  refine ⟨by simpa [PyData.canLay0] using this.1, ?_⟩
  have h2 := this.2
  simp only [PyData.depth] at h2
  omega
theorem plain_all : ∀ {ds : List PyData}, PyData.canLayAll0 ds = true → PyData.plainAll ds = true
  | [], _ => by simp [PyData.plainAll]
  | d :: ds, h => by
    obtain ⟨h1, h2⟩ := lay_cons h
    simp [PyData.plainAll, PyData.plain_of_canLay0 d h1, plain_all h2]
theorem place_eq {xs : List D} {y : D} (hp : pureDs 11 xs = true) (hy : pureD 12 y = true) : dataPlace (toPys xs) (toPy y) = xs.findIdx? fun z => eqv z y := by
  unfold dataPlace
  rw [toPys_map]
  induction xs with
  | nil => rfl
  | cons x xs ih =>
    simp only [pureDs, Bool.and_eq_true] at hp
    simp only [List.map_cons, List.findIdx?_cons, ih hp.2, eqv_py 11 12 x y hp.1 hy]
theorem countP_eq {xs : List D} {y : D} (hp : pureDs 11 xs = true) (hy : pureD 12 y = true) : ((toPys xs).countP fun z => PyData.eqv z (toPy y)) = xs.countP fun z => eqv z y := by
  rw [toPys_map]
  induction xs with
  | nil => rfl
  | cons x xs ih =>
    simp only [pureDs, Bool.and_eq_true] at hp
    simp only [List.map_cons, List.countP_cons, ih hp.2, eqv_py 11 12 x y hp.1 hy]
theorem fIndexL_ok (on : On G X) (hu : X.A.units + 64 < cLine) : MtD G X "index" "list" fIndexL := by
  refine ⟨"list.index", PySem.F.plainAttrs_list, PySem.F.slot_list_index, PySem.F.type_list_index, fun pins s σ H x xs v us Q I rx rxs ⟨β, m, d, ds, rp, rd, rds, h⟩ => ?_⟩
  unfold fIndexL at h
  split at h
  · rename_i y
    split at h
    · rename_i ys e
      split at h
      · rename_i c
        obtain ⟨p, zs, rfl, h1, h2⟩ := listM_sq rp e rd
        obtain ⟨w, rfl, rw'⟩ := rds.split1
        obtain ⟨uy, rfl, ry⟩ := vals1 rxs
        cases rx
        obtain ⟨its, rv, ⟨⟨cls, dd, data, sls⟩, n, ho, hc, hdn, hdt⟩, hlen⟩ := I.list (on.K ▸ h1)
        simp only at hc hdt
        subst hc hdt
        obtain ⟨as, h4⟩ := reads_items on I rp c.2 h2 rv
        obtain ⟨bs, r1⟩ := reads_one on I rp c.1 rw' ry
        obtain ⟨l1, l2⟩ := pures_lay c.2
        cases q : ys.findIdx? (fun z => eqv z y) with
        | none => rw [q] at h; exact h.elim
        | some j =>
          rw [q] at h
          have hpl : dataPlace (toPys ys) (toPy y) = some j := by rw [place_eq c.2 c.1, q]
          have hh := hit_at (vs := its.toArray) (d := toPy y) h4 (plain_all l1) hpl
          obtain ⟨hj, hit, hno⟩ := hh
          refine call_meets PySem.F.slot_list_index ⟨_, ho, rfl⟩ PySem.F.entry_list_index (PySem.F.args_list_index_2 _ _)
            (SeqAt.list_indexAt p its.toArray n dd sls uy (fun u => PyData.eqv (SeqAt.readOf s.heap u) (toPy y)) j hj (by have a1 := rv.length; have a2 : j < its.length := (by simpa using hj); have a3 := sizeLine_eq; omega) hit hno) ⟨ho, SeqAt.items_eqAt (vs := its.toArray) (show ReadsAll s.heap its.toArray.toList (toPys ys) as from h4) r1 l1 (rd_ok (m := m) 12 _ _ (pure_rd 12 y c.1)).1 (by have := Nat.min_le_left (PyData.depthAll (toPys ys)) (toPy y).depth; have e : X.A.in1.units = X.A.units + 1 := rfl; omega), ?_⟩
          exact ⟨.int (j : Nat), H, I.tok _, ⟨_, rfl⟩, Post.int h rp⟩
      · exact h.elim
    · exact h.elim
  · exact h.elim
theorem fIndexT_ok (on : On G X) (hu : X.A.units + 64 < cLine) : MtD G X "index" "tuple" fIndexT := by
  refine ⟨"tuple.index", PySem.F.plainAttrs_tuple, PySem.F.slot_tuple_index, PySem.F.type_tuple_index, fun pins s σ H x xs v us Q I rx rxs ⟨β, m, d, ds, rp, rd, rds, h⟩ => ?_⟩
  unfold fIndexT at h
  split at h
  · rename_i ys y
    split at h
    · rename_i c
      simp only [RV] at rd
      obtain ⟨p, zs, rfl, h1, h2⟩ := rd
      obtain ⟨w, rfl, rw'⟩ := rds.split1
      obtain ⟨uy, rfl, ry⟩ := vals1 rxs
      cases rx
      obtain ⟨its, rv, ⟨⟨cls, dd, data, sls⟩, ho, hc, n, hdt⟩, hlen⟩ := I.tuple (on.K ▸ h1.sq)
      simp only at hc hdt
      subst hc hdt
      obtain ⟨as, h4⟩ := reads_items on I rp c.2 h2 rv
      obtain ⟨bs, r1⟩ := reads_one on I rp c.1 rw' ry
      obtain ⟨l1, l2⟩ := pures_lay c.2
      cases q : ys.findIdx? (fun z => eqv z y) with
      | none => rw [q] at h; exact h.elim
      | some j =>
        rw [q] at h
        have hpl : dataPlace (toPys ys) (toPy y) = some j := by rw [place_eq c.2 c.1, q]
        obtain ⟨hj, hit, hno⟩ := hit_at (vs := its.toArray) (d := toPy y) h4 (plain_all l1) hpl
        refine call_meets PySem.F.slot_tuple_index ⟨_, ho, rfl⟩ PySem.F.entry_tuple_index (PySem.F.args_tuple_index_2 _ _)
          (TI.tuple_indexAt p its.toArray n dd sls uy (fun u => PyData.eqv (SeqAt.readOf s.heap u) (toPy y)) j hj hit hno) ⟨ho, SeqAt.items_eqAt (vs := its.toArray) (show ReadsAll s.heap its.toArray.toList (toPys ys) as from h4) r1 l1 (rd_ok (m := m) 12 _ _ (pure_rd 12 y c.1)).1 (by have := Nat.min_le_left (PyData.depthAll (toPys ys)) (toPy y).depth; have e : X.A.in1.units = X.A.units + 1 := rfl; omega), ?_⟩
        exact ⟨.int (j : Nat), H, I.tok _, ⟨_, rfl⟩, Post.int h rp⟩
    · exact h.elim
  · exact h.elim
theorem fCountL_ok (on : On G X) (hu : X.A.units + 64 < cLine) : MtD G X "count" "list" fCountL := by
  refine ⟨"list.count", PySem.F.plainAttrs_list, PySem.F.slot_list_count, PySem.F.type_list_count, fun pins s σ H x xs v us Q I rx rxs ⟨β, m, d, ds, rp, rd, rds, h⟩ => ?_⟩
  unfold fCountL at h
  split at h
  · rename_i y
    split at h
    · rename_i ys e
      split at h
      · rename_i c
        obtain ⟨p, zs, rfl, h1, h2⟩ := listM_sq rp e rd
        obtain ⟨w, rfl, rw'⟩ := rds.split1
        obtain ⟨uy, rfl, ry⟩ := vals1 rxs
        cases rx
        obtain ⟨its, rv, pl, hlen⟩ := I.list (on.K ▸ h1)
        obtain ⟨as, h4⟩ := reads_items on I rp c.2 h2 rv
        obtain ⟨bs, r1⟩ := reads_one on I rp c.1 rw' ry
        obtain ⟨l1, l2⟩ := pures_lay c.2
        refine count_list_data (vs := its.toArray) (xs := toPys ys) (d := toPy y) pl.isList h4 r1 (plain_all l1) (PyData.plain_of_canLay0 _ (rd_ok (m := m) 12 _ _ (pure_rd 12 y c.1)).1) (by have := Nat.min_le_left (PyData.depthAll (toPys ys)) (toPy y).depth; omega) ?_
        refine ⟨.int _, H, I.tok _, ⟨_, rfl⟩, ?_⟩
        rw [countP_eq c.2 c.1]
        exact Post.int h rp
      · exact h.elim
    · exact h.elim
  · exact h.elim
theorem fCountT_ok (on : On G X) (hu : X.A.units + 64 < cLine) : MtD G X "count" "tuple" fCountT := by
  refine ⟨"tuple.count", PySem.F.plainAttrs_tuple, PySem.F.slot_tuple_count, PySem.F.type_tuple_count, fun pins s σ H x xs v us Q I rx rxs ⟨β, m, d, ds, rp, rd, rds, h⟩ => ?_⟩
  unfold fCountT at h
  split at h
  · rename_i ys y
    split at h
    · rename_i c
      simp only [RV] at rd
      obtain ⟨p, zs, rfl, h1, h2⟩ := rd
      obtain ⟨w, rfl, rw'⟩ := rds.split1
      obtain ⟨uy, rfl, ry⟩ := vals1 rxs
      cases rx
      obtain ⟨its, rv, pl, hlen⟩ := I.tuple (on.K ▸ h1.sq)
      obtain ⟨as, h4⟩ := reads_items on I rp c.2 h2 rv
      obtain ⟨bs, r1⟩ := reads_one on I rp c.1 rw' ry
      obtain ⟨l1, l2⟩ := pures_lay c.2
      refine count_tuple_data (vs := its.toArray) (xs := toPys ys) (d := toPy y) pl h4 r1 (plain_all l1) (PyData.plain_of_canLay0 _ (rd_ok (m := m) 12 _ _ (pure_rd 12 y c.1)).1) (by have := Nat.min_le_left (PyData.depthAll (toPys ys)) (toPy y).depth; omega) ?_
      refine ⟨.int _, H, I.tok _, ⟨_, rfl⟩, ?_⟩
      rw [countP_eq c.2 c.1]
      exact Post.int h rp
    · exact h.elim
  · exact h.elim
end
/-! ### dicts -/
def fGet : OpM := fun d ds m => match d, ds with
  | .loc l, [k, x] => match m[l]? with
    | some (.dict kvs _) => if kindOk kvs k = true then some ((dGet kvs k).getD x, m) else none
    | _ => none
  | .loc l, [k] => match m[l]? with
    | some (.dict kvs _) => if kindOk kvs k = true then some ((dGet kvs k).getD .non, m) else none
    | _ => none
  | _, _ => none
def fSetd : OpM := fun d ds m => match d, ds with
  | .loc l, [k, x] => match m[l]? with
    | some (.dict kvs false) => if kindOk kvs k = true ∧ kvs.length < sizeLine then (match dGet kvs k with
      | some v => some (v, m)
      | none => some (x, m.set l (.dict (dPut kvs k x) false))) else none
    | _ => none
  | _, _ => none
section
variable {G : Gx} {X : Cx} {pins : List (Addr × Obj)} {σ : L2.St} {H : Hp} {s : Shared} {β : List Pl} {m : Mem} {A : Around} {E : Value → Shared → Prop} {a : Addr} {es : Array DictEntry} {ep : Nat} {kvs : List (D × D)} {k : D} {y : V} {u : Value}
/-- d.get(y) -/
theorem dget1_ok {Q : Value → Shared → Prop} (on : On G X) (hu : A.units + 64 < cLine) (I : L2.Inv X pins σ H s) (hs : (a == sysModules) = false) (h : H a = some (dictO a es ep)) (e : EntM G H β es kvs ∨ EntN G H β es kvs) (hk : kindOk kvs k = true) (ry : RV G H β y k) (ru : RelV y u)
    (hq : ∀ z w s', L2.Inv X pins σ H s' → RelV z w → RV G H β z ((dGet kvs k).getD .non) → Q w s') : wpAny (model X.prog X.w) A (call (.builtin "dict.get") [.ref a, u]) Q E s := by
  rcases kind_cases hk with ⟨k', e1, e2⟩ | ⟨k', e1, e2, ⟨xs, e3⟩, e4⟩
  · obtain ⟨ks, dd, pm⟩ := dict_M on I h e e2
    have yk := keyM_kV e1 ry
    subst yk
    rcases pm.get e1 with ⟨h1, h2⟩ | ⟨d', w, h1, h2, z, h3, h4⟩
    · refine call_meetsIn PySem.F.slot_dict_get dd.typeIs PySem.F.entry_dict_get (PySem.F.args_dict_get_2 _ _) (meets_dict_get (mixKind X.prog X.w) a (kV_is ru) hs) ⟨_, dd.mapOf, ?_⟩
      rw [h2]
      exact hq .non .none _ (I.tok _) rfl (by rw [h1]; simp [RV])
    · refine call_meetsIn PySem.F.slot_dict_get dd.typeIs PySem.F.entry_dict_get (PySem.F.args_dict_get_2 _ _) (meets_dict_get (mixKind X.prog X.w) a (kV_is ru) hs) ⟨_, dd.mapOf, ?_⟩
      rw [h2]
      exact hq z w _ (I.tok _) h3 (by rw [h1]; exact h4)
  · obtain ⟨ks, dd, pn⟩ := dict_N on I h e e4
    subst e3
    have ry' := ry
    simp only [RV] at ry'
    obtain ⟨b, ys, rfl, _, _⟩ := ry'
    cases ru
    refine call_meetsIn PySem.F.slot_dict_get dd.typeIs PySem.F.entry_dict_get (PySem.F.args_dict_get_2 _ _) (meetsH_dict_get (nestedKind X.prog X.w) a b hs) ⟨nroom hu, k', ks, ⟨nested_is on I _ _ _ _ e1 ry rfl, e2⟩, dd, ?_⟩
    rcases pn.get e1 with ⟨h1, h2⟩ | ⟨d', b', w, h1, h2, z, h3, h4⟩
    · rw [h2]
      exact hq .non .none _ (I.tok _) rfl (by rw [h1]; simp [RV])
    · rw [h2]
      exact hq z w _ (I.tok _) h3 (by rw [h1]; exact h4)
/-- d.setdefault(y, x) -/
theorem dsetd_ok {l : Nat} {x : D} {xv : V} {xu : Value} {Q : Value → Shared → Prop} (on : On G X) (hu : A.units + 64 < cLine) (I : L2.Inv X pins σ H s) (rp : Rp G H β m) (ha : β[l]? = some (a, false)) (hs : (a == sysModules) = false) (hl : kvs.length < sizeLine) (h : H a = some (dictO a es ep)) (e : EntM G H β es kvs ∨ EntN G H β es kvs) (hk : kindOk kvs k = true) (ry : RV G H β y k) (ru : RelV y u)
    (rx : RV G H β xv x) (rxu : RelV xv xu) (h1 : ∀ d z w s', dGet kvs k = some d → L2.Inv X pins σ H s' → RelV z w → RV G H β z d → Q w s')
    (h2 : dGet kvs k = none → ∀ es' ep' s', L2.Inv X pins σ (upd H a (dictO a es' ep')) s' → Rp G (upd H a (dictO a es' ep')) β (m.set l (.dict (dPut kvs k x) false)) → Q xu s') : wpAny (model X.prog X.w) A (call (.builtin "dict.setdefault") [.ref a, u, xu]) Q E s := by
  have hz : (dPut kvs k x).length ≤ sizeLine := by have := length_dPut kvs k x; omega
  rcases kind_cases hk with ⟨k', e1, e2⟩ | ⟨k', e1, e2, ⟨xs, e3⟩, e4⟩
  · obtain ⟨ks, dd, pm⟩ := dict_M on I h e e2
    have yk := keyM_kV e1 ry
    subst yk
    have hks : ks.length ≤ sizeLine := by rw [Paired.length pm]; omega
    refine call_meetsIn PySem.F.slot_dict_setdefault dd.typeIs PySem.F.entry_dict_setdefault (PySem.F.args_dict_setdefault_3 _ _ _) (kt_meets_setdefault (mixKind X.prog X.w) a (kV_is ru) hs xu) ⟨ks, dd, hks, fun v hv => ?_, fun hn h' dd' hsb => ?_⟩
    · rcases pm.get e1 with ⟨h1', h2'⟩ | ⟨d', w, h1', h2', z, h3, h4⟩
      · rw [h2'] at hv; cases hv
      · rw [h2'] at hv; cases hv
        exact h1 d' z _ _ h1' (I.tok _) h3 h4
    · rcases pm.get e1 with ⟨h1', h2'⟩ | ⟨d', w, h1', h2', z, h3, h4⟩
      · obtain ⟨es', ep', I', rp'⟩ := stored_M (t' := s.toks + 1) on I rp ha hs h hz dd' hsb (pm.put e1 ⟨xv, rxu, rx⟩)
        exact h2 h1' es' ep' _ I' rp'
      · rw [h2'] at hn; cases hn
  · obtain ⟨ks, dd, pn⟩ := dict_N on I h e e4
    subst e3
    have ry' := ry
    simp only [RV] at ry'
    obtain ⟨b, ys, rfl, _, _⟩ := ry'
    cases ru
    have hks : ks.length ≤ sizeLine := by rw [Paired.length pn]; omega
    refine call_setdefault_heap (knd := nestedKind X.prog X.w) (k := k') (hsz := hks) (nroom hu) ⟨nested_is on I _ _ _ _ e1 ry rfl, e2⟩ hs dd (fun p hp => ?_) fun hn h' dd' hsb => ?_
    · rcases pn.get e1 with ⟨h1', h2'⟩ | ⟨d', b', w, h1', h2', z, h3, h4⟩
      · rw [h2'] at hp; cases hp
      · rw [h2'] at hp; cases hp
        exact h1 d' z w _ h1' (I.tok _) h3 h4
    · rcases pn.get e1 with ⟨h1', h2'⟩ | ⟨d', b', w, h1', h2', z, h3, h4⟩
      · obtain ⟨es', ep', I', rp'⟩ := stored_N (t' := s.toks + (nestedKind X.prog X.w).draws k') on I rp ha hs h hz dd' hsb (pn.put e1 e2 ry ⟨xv, rxu, rx⟩)
        exact h2 h1' es' ep' _ I' rp'
      · rw [h2'] at hn; cases hn
end
section
variable {G : Gx} {X : Cx}
theorem fGet_ok (on : On G X) (hu : X.A.units + 64 < cLine) : MtD G X "get" "dict" fGet := by
  refine ⟨"dict.get", PySem.F.plainAttrs_dict, PySem.F.slot_dict_get, PySem.F.type_dict_get, fun pins s σ H x xs v us Q I rx rxs ⟨β, m, d, ds, rp, rd, rds, h⟩ => ?_⟩
  unfold fGet at h
  split at h
  · split at h
    · rename_i kvs lk e
      split at h
      · rename_i hk
        obtain ⟨p, es, ep, rfl, _, hsy, hl, h2, h3⟩ := rp.dict e rd
        obtain ⟨w1, w2, rfl, q1, q2⟩ := rds.split2
        obtain ⟨u1, u2, rfl, r1, r2⟩ := vals2 rxs
        cases rx
        exact dget2_ok on hu I hsy h2 h3 hk q1 r1 q2 r2 fun z w s' I' rz rv => ⟨z, H, I', rz, Post.same h rp rv⟩
      · exact h.elim
    · exact h.elim
  · split at h
    · rename_i kvs lk e
      split at h
      · rename_i hk
        obtain ⟨p, es, ep, rfl, _, hsy, hl, h2, h3⟩ := rp.dict e rd
        obtain ⟨w1, rfl, q1⟩ := rds.split1
        obtain ⟨u1, rfl, r1⟩ := vals1 rxs
        cases rx
        exact dget1_ok on hu I hsy h2 h3 hk q1 r1 fun z w s' I' rz rv => ⟨z, H, I', rz, Post.same h rp rv⟩
      · exact h.elim
    · exact h.elim
  · exact h.elim
theorem fSetd_ok (on : On G X) (hu : X.A.units + 64 < cLine) : MtD G X "setdefault" "dict" fSetd := by
  refine ⟨"dict.setdefault", PySem.F.plainAttrs_dict, PySem.F.slot_dict_setdefault, PySem.F.type_dict_setdefault, fun pins s σ H x xs v us Q I rx rxs ⟨β, m, d, ds, rp, rd, rds, h⟩ => ?_⟩
  unfold fSetd at h
  split at h
  · split at h
    · rename_i kvs e
      split at h
      · rename_i c
        obtain ⟨p, es, ep, rfl, ha, hsy, hl, h2, h3⟩ := rp.dict e rd
        obtain ⟨w1, w2, rfl, q1, q2⟩ := rds.split2
        obtain ⟨u1, u2, rfl, r1, r2⟩ := vals2 rxs
        cases rx
        refine dsetd_ok on hu I rp ha hsy c.2 h2 h3 c.1 q1 r1 q2 r2 (fun d' z w s' hd I' rz rv => ⟨z, H, I', rz, ?_⟩) fun hd es' ep' s' I' rp' => ⟨w2, _, I', r2, ?_⟩
        · rw [hd] at h; exact Post.same h rp rv
        · rw [hd] at h
          have xw := Ext.write (H := H) (ob := dictO p es' ep') ha
          exact (show Post G H β _ _ Q from h) w2 β _ xw rp' (RV.mono (xw.tl rp) (BL.refl _) _ _ q2)
      · exact h.elim
    · exact h.elim
  · exact h.elim
end
end Mn
set_option Elab.async false
set_option linter.all false
set_option maxRecDepth 100000
set_option maxHeartbeats 1000000
/-! Mn11: statements. -/
namespace Mn
open PySem L2 PySem.Spec PyProof.Rows
def GoodS (G : Gx) (W : WX) (D : Ends) (H : Hp) (β : List Pl) : OutS → Prop
  | .next ρ m' => ∀ σ' β' H', Ext β H H' β' → Rp G H' β' m' → RS G H' β' σ' ρ → D.nx σ' H'
  | .brk ρ m' => ∀ σ' β' H', Ext β H H' β' → Rp G H' β' m' → RS G H' β' σ' ρ → D.bk σ' H'
  | .cont ρ m' => ∀ σ' β' H', Ext β H H' β' → Rp G H' β' m' → RS G H' β' σ' ρ → D.ct σ' H'
  | .ret v m' => ∀ u β' H', Ext β H H' β' → Rp G H' β' m' → RV G H' β' u v → D.rt u H'
  | .exc c p ρ m' => ∀ cls dd σ' β' H', Ext β H H' β' → Rp G H' β' m' → RS G H' β' σ' ρ → RX G H' β' cls dd c p → W cls dd σ' H'
  | .bad => False
/-- the reading of statements -/
def tS (G : Gx) (W : WX) (fe : FE) (d : DenS) : TS := fun D σ H => ∃ β m ρ, Rp G H β m ∧ RS G H β σ ρ ∧ GoodS G W D H β (d fe ρ m)
def OutS.ofE {α : Type} (r : Out α) (ρ : Env) (k : α → Mem → OutS) : OutS := match r with
  | .ok a m => k a m
  | .exc c p m => .exc c p ρ m
  | .bad => .bad
@[simp] theorem OutS.ofE_ok {α : Type} (a : α) (m : Mem) (ρ : Env) (k : α → Mem → OutS) : OutS.ofE (.ok a m) ρ k = k a m := rfl
@[simp] theorem OutS.ofE_exc {α : Type} (c : Nat) (p : Option D) (m : Mem) (ρ : Env) (k : α → Mem → OutS) : OutS.ofE (.exc c p m : Out α) ρ k = .exc c p ρ m := rfl
@[simp] theorem OutS.ofE_bad {α : Type} (ρ : Env) (k : α → Mem → OutS) : OutS.ofE (.bad : Out α) ρ k = .bad := rfl
def OutS.seq (r : OutS) (k : Env → Mem → OutS) : OutS := match r with
  | .next ρ m => k ρ m
  | r => r
@[simp] theorem OutS.seq_next (ρ : Env) (m : Mem) (k : Env → Mem → OutS) : OutS.seq (.next ρ m) k = k ρ m := rfl
@[simp] theorem OutS.seq_ret (v : D) (m : Mem) (k : Env → Mem → OutS) : OutS.seq (.ret v m) k = .ret v m := rfl
@[simp] theorem OutS.seq_brk (ρ : Env) (m : Mem) (k : Env → Mem → OutS) : OutS.seq (.brk ρ m) k = .brk ρ m := rfl
@[simp] theorem OutS.seq_cont (ρ : Env) (m : Mem) (k : Env → Mem → OutS) : OutS.seq (.cont ρ m) k = .cont ρ m := rfl
@[simp] theorem OutS.seq_exc (c : Nat) (p : Option D) (ρ : Env) (m : Mem) (k : Env → Mem → OutS) : OutS.seq (.exc c p ρ m) k = .exc c p ρ m := rfl
@[simp] theorem OutS.seq_bad (k : Env → Mem → OutS) : OutS.seq .bad k = .bad := rfl
section
variable {G : Gx} {W : WX} {H : Hp} {β : List Pl} {D : Ends}
theorem GoodS.ext {r : OutS} {H1 : Hp} {β1 : List Pl} (h : GoodS G W D H β r) (x : Ext β H H1 β1) : GoodS G W D H1 β1 r := by
  cases r with
  | next ρ m => exact fun σ' β' H' x' r s => h σ' β' H' (x.trans x') r s
  | brk ρ m => exact fun σ' β' H' x' r s => h σ' β' H' (x.trans x') r s
  | cont ρ m => exact fun σ' β' H' x' r s => h σ' β' H' (x.trans x') r s
  | ret v m => exact fun u β' H' x' r s => h u β' H' (x.trans x') r s
  | exc c p ρ m => exact fun cls dd σ' β' H' x' r s z => h cls dd σ' β' H' (x.trans x') r s z
  | bad => exact h
/-- behind an expression -/
theorem GoodS.ofE {α : Type} {r : Out α} {σ : L2.St} {ρ : Env} {m : Mem} {k : α → Mem → OutS} (rp : Rp G H β m) (rs : RS G H β σ ρ) (h : GoodS G W D H β (OutS.ofE r ρ k)) :
    GoodO G (fun c d H' => W c d σ H') H β (fun a m1 H1 β1 => RS G H1 β1 σ ρ ∧ GoodS G W D H1 β1 (k a m1)) r := by
  cases r with
  | ok a m1 => exact fun β' H' x _ => ⟨rs.ext rp x, GoodS.ext (show GoodS G W D H β (k a m1) from h) x⟩
  | exc c p m1 => exact fun cls dd β' H' x r z => h cls dd σ β' H' x r (rs.ext rp x) z
  | bad => exact h
theorem GoodS.ofEE {r : Out Mn.D} {σ : L2.St} {ρ : Env} {m : Mem} {k : Mn.D → Mem → OutS} (rp : Rp G H β m) (rs : RS G H β σ ρ) (h : GoodS G W D H β (OutS.ofE r ρ k)) {Q : VK}
    (hq : ∀ v m1 H1 β1 u, Ext β H H1 β1 → Rp G H1 β1 m1 → RS G H1 β1 σ ρ → RV G H1 β1 u v → GoodS G W D H1 β1 (k v m1) → Q u H1) : GoodE G (fun c d H' => W c d σ H') H β Q r :=
  (GoodO.mono (GoodS.ofE rp rs h) fun v m1 H1 β1 x rp1 g u ru => hq v m1 H1 β1 u x rp1 g.1 ru g.2).e
theorem GoodS.seq {r : OutS} {k : Env → Mem → OutS} (h : GoodS G W D H β (r.seq k)) {N : L2.St → Hp → Prop} (hn : ∀ ρ m' σ' β' H', Ext β H H' β' → Rp G H' β' m' → RS G H' β' σ' ρ → GoodS G W D H' β' (k ρ m') → N σ' H') : GoodS G W { D with nx := N } H β r := by
  cases r with
  | next ρ m => exact fun σ' β' H' x r s => hn ρ m σ' β' H' x r s (GoodS.ext (show GoodS G W D H β (k ρ m) from h) x)
  | brk ρ m => exact h
  | cont ρ m => exact h
  | ret v m => exact h
  | exc c p ρ m => exact h
  | bad => exact h
end
/-! ### statements -/
def sNil : DenS := fun _ ρ m => .next ρ m
def sSeq (a b : DenS) : DenS := fun fe ρ m => (a fe ρ m).seq fun ρ' m' => b fe ρ' m'
def sExpr (a : Den) : DenS := fun fe ρ m => .ofE (a fe ρ m) ρ fun _ m1 => .next ρ m1
def sRet (a : Den) : DenS := fun fe ρ m => .ofE (a fe ρ m) ρ fun v m1 => .ret v m1
def sIf (t : DenT) (a b : DenS) : DenS := fun fe ρ m => .ofE (t fe ρ m) ρ fun c m1 => if c = true then a fe ρ m1 else b fe ρ m1
def sSet (i : Nat) (a : Den) : DenS := fun fe ρ m => .ofE (a fe ρ m) ρ fun v m1 => .next (ρ.set i (some v)) m1
def sBrk : DenS := fun _ ρ m => .brk ρ m
def sCont : DenS := fun _ ρ m => .cont ρ m
section
variable {G : Gx} {X : Cx} {W : WX} {fe : FE} {a b e : Expr} {st : Stmt} {sa sb : List Stmt} {d : Den} {dt : DenT} {ds ds' : DenS} {pos p' : Pos}
theorem snil_ok : PSs X [] (tS G W fe sNil) := PSs.imp pss_nil fun D σ H ⟨β, m, ρ, rp, rs, g⟩ => g σ β H Ext.refl rp rs
theorem sseq_ok (h1 : PS X st (tS G W fe ds)) (h2 : PSs X sa (tS G W fe ds')) : PSs X (st :: sa) (tS G W fe (sSeq ds ds')) := PSs.imp (pss_cons h1 h2) fun D σ H h => by
  obtain ⟨β, m, ρ, rp, rs, g⟩ := h
  exact ⟨β, m, ρ, rp, rs, GoodS.seq g fun ρ' m' σ' β' H' x r s g' => ⟨β', m', ρ', r, s, g'⟩⟩
theorem sone_ok (h1 : PS X st (tS G W fe ds)) : PSs X [st] (tS G W fe ds) := pss_one h1
theorem sexpr_ok (h : PE X e (tE G W fe d)) (hs : swapsWith e none pos.line X.env = pure false) : PS X (.Expr e pos) (tS G W fe (sExpr d)) := PS.imp (ps_expr h hs) fun D σ H h => by
  obtain ⟨β, m, ρ, rp, rs, g⟩ := h
  exact ⟨β, m, ρ, rp, rs, GoodS.ofEE rp rs g fun v m1 H1 β1 u x rp1 rs1 ru g1 => g1 σ β1 H1 Ext.refl rp1 rs1⟩
theorem sret_ok (h : PE X e (tE G W fe d)) : PS X (.Return (some e) pos) (tS G W fe (sRet d)) := PS.imp (ps_ret h) fun D σ H h => by
  obtain ⟨β, m, ρ, rp, rs, g⟩ := h
  exact ⟨β, m, ρ, rp, rs, GoodS.ofEE rp rs g fun v m1 H1 β1 u x rp1 rs1 ru g1 => g1 u β1 H1 Ext.refl rp1 ru⟩
theorem sif_ok (hc : PT X e (tT G W fe dt)) (ha : PSs X sa (tS G W fe ds)) (hb : PSs X sb (tS G W fe ds')) : PS X (.If e sa sb pos) (tS G W fe (sIf dt ds ds')) := PS.imp (ps_if hc ha hb) fun D σ H h => by
  obtain ⟨β, m, ρ, rp, rs, g⟩ := h
  refine ⟨β, m, ρ, rp, rs, GoodO.mono (GoodS.ofE rp rs g) fun c m1 H1 β1 x rp1 g1 => ?_⟩
  cases c with
  | true => exact ⟨β1, m1, ρ, rp1, g1.1, g1.2⟩
  | false => exact ⟨β1, m1, ρ, rp1, g1.1, g1.2⟩
theorem sset_ok {i : Nat} {x : Str} (hN : X.N.Nodup) (hi : X.N[i]? = some x) (hx : Loc X.env.scope x) (he : PE X e (tE G W fe d)) (hs : swapsWith e (some (.Name x p')) pos.line X.env = pure false) (hf : X.fn x = true ∨ X.env.scope.names.lookup x = some .local) :
    PS X (.Assign [.Name x p'] e pos) (tS G W fe (sSet i d)) := PS.imp (ps_set hN hi hx he hs hf) fun D σ H h => by
  obtain ⟨β, m, ρ, rp, rs, g⟩ := h
  exact ⟨β, m, ρ, rp, rs, GoodS.ofEE rp rs g fun v m1 H1 β1 u x rp1 rs1 ru g1 => g1 _ β1 H1 Ext.refl rp1 (rs1.set i ru)⟩
theorem sbrk_ok : PS X (.Break pos) (tS G W fe sBrk) := PS.imp ps_break fun D σ H ⟨β, m, ρ, rp, rs, g⟩ => g σ β H Ext.refl rp rs
theorem scont_ok : PS X (.Continue pos) (tS G W fe sCont) := PS.imp ps_continue fun D σ H ⟨β, m, ρ, rp, rs, g⟩ => g σ β H Ext.refl rp rs
theorem spass_ok : PS X (.Pass pos) (tS G W fe sNil) := PS.imp ps_pass fun D σ H ⟨β, m, ρ, rp, rs, g⟩ => g σ β H Ext.refl rp rs
end
/-! ### targets -/
inductive Pat where
  | nm (i : Nat) | tp (ps : List Pat)
mutual
def bindP : Pat → D → Env → Option Env
  | .nm i, d, ρ => some (ρ.set i (some d))
  | .tp ps, .tup ds, ρ => bindPs ps ds ρ
  | .tp _, _, _ => none
def bindPs : List Pat → List D → Env → Option Env
  | [], [], ρ => some ρ
  | p :: ps, d :: ds, ρ => match bindP p d ρ with
    | some ρ' => bindPs ps ds ρ'
    | none => none
  | _, _, _ => none
end
mutual
def Pat.slots : Pat → List Nat
  | .nm i => [i]
  | .tp ps => slotss ps
def slotss : List Pat → List Nat
  | [] => []
  | p :: ps => p.slots ++ slotss ps
end
/-- a tuple by its items -/
def RY (G : Gx) (H : Hp) (β : List Pl) (v : V) (d : D) : Prop := ∀ ds, d = .tup ds → ∃ a xs, v = .ref a ∧ SqT G.K H a xs ∧ RVs G H β xs ds
theorem RV.ry {G : Gx} {H : Hp} {β : List Pl} {v : V} {d : D} (h : RV G H β v d) : RY G H β v d := fun ds e => by
  subst e
  simp only [RV] at h
  obtain ⟨a, xs, e, h1, h2⟩ := h
  exact ⟨a, xs, e, h1.sq, h2⟩
def RW (G : Gx) (H : Hp) (β : List Pl) : Pat → V → D → Prop
  | .nm _, v, d => RV G H β v d
  | .tp _, v, d => RY G H β v d
theorem RV.rw {G : Gx} {H : Hp} {β : List Pl} {v : V} {d : D} (p : Pat) (h : RV G H β v d) : RW G H β p v d := by
  cases p with
  | nm i => exact h
  | tp ps => exact h.ry
/-- the slots but those are as they were -/
def Off (is : List Nat) (σ σ' : L2.St) : Prop := σ'.length = σ.length ∧ ∀ i, i ∉ is → σ'[i]? = σ[i]?
theorem Off.refl (is : List Nat) (σ : L2.St) : Off is σ σ := ⟨rfl, fun _ _ => rfl⟩
def tP (G : Gx) (p : Pat) : TG := fun v σ H Q => ∃ β m ρ d ρ', Rp G H β m ∧ RS G H β σ ρ ∧ RW G H β p v d ∧ bindP p d ρ = some ρ' ∧ ∀ σ', RS G H β σ' ρ' → Off p.slots σ σ' → Q σ' H
def tPs (G : Gx) (ps : List Pat) : TGs := fun vs σ H Q => ∃ β m ρ ds ρ', Rp G H β m ∧ RS G H β σ ρ ∧ RVs G H β vs ds ∧ bindPs ps ds ρ = some ρ' ∧ ∀ σ', RS G H β σ' ρ' → Off (slotss ps) σ σ' → Q σ' H
section
variable {G : Gx} {X : Cx} {e : Expr} {es : List Expr} {p : Pat} {ps : List Pat} {pos : Pos} {k : Nat}
theorem PG.imp {e : Expr} {t t' : TG} (h : PG X e t) (f : ∀ v σ H Q, t' v σ H Q → t v σ H Q) : PG X e t' := ⟨fun pins s σ H v u Q I r x => h.run pins s σ H v u Q I r (f v σ H Q x)⟩
theorem PGs.imp {e : List Expr} {t t' : TGs} (h : PGs X e t) (f : ∀ v σ H Q, t' v σ H Q → t v σ H Q) : PGs X e t' := ⟨fun pins s σ H v u Q I r x => h.run pins s σ H v u Q I r (f v σ H Q x)⟩
theorem pnm_ok {i : Nat} {x : Str} (hN : X.N.Nodup) (hi : X.N[i]? = some x) (hx : Loc X.env.scope x) (hf : X.fn x = true ∨ X.env.scope.names.lookup x = some .local) : PG X (.Name x pos) (tP G (.nm i)) := PG.imp (pg_name hN hi hx hf) fun v σ H Q h => by
  obtain ⟨β, m, ρ, d, ρ', rp, rs, rv, hb, hq⟩ := h
  simp only [bindP, Option.some.injEq] at hb
  subst hb
  refine hq _ (rs.set i rv) ⟨by simp, fun j hj => ?_⟩
  rw [List.getElem?_set_ne (fun z => hj (by rw [← z]; simp [Pat.slots]))]
theorem pnil_ok : PGs X [] (tPs G []) := PGs.imp pgs_nil fun vs σ H Q h => by
  obtain ⟨β, m, ρ, ds, ρ', rp, rs, rv, hb, hq⟩ := h
  cases ds with
  | nil =>
    simp only [bindPs, Option.some.injEq] at hb
    subst hb
    simp only [RVs] at rv
    exact ⟨rv, hq _ rs (Off.refl _ _)⟩
  | cons d ds => simp [bindPs] at hb
theorem RVs.rws {H : Hp} {β : List Pl} {vs : List V} {d : D} {ds : List D} (h : RVs G H β vs (d :: ds)) : ∃ v r, vs = v :: r ∧ RV G H β v d ∧ RVs G H β r ds := by
  simp only [RVs] at h
  obtain ⟨x, r, e, h1, h2⟩ := h
  exact ⟨x, r, e, h1, h2⟩
theorem pcons_ok (h1 : PG X e (tP G p)) (h2 : PGs X es (tPs G ps)) (hs : (assignEach (e :: es) X.env).map (·.2) = assign e X.env :: (assignEach es X.env).map (·.2)) : PGs X (e :: es) (tPs G (p :: ps)) := PGs.imp (pgs_cons h1 h2 hs) fun vs σ H Q h => by
  obtain ⟨β, m, ρ, ds, ρ', rp, rs, rv, hb, hq⟩ := h
  cases ds with
  | nil => simp [bindPs] at hb
  | cons d ds =>
    obtain ⟨v, r, rfl, r1, r2⟩ := rv.rws
    simp only [bindPs] at hb
    cases e1 : bindP p d ρ with
    | none => rw [e1] at hb; cases hb
    | some ρ1 =>
      rw [e1] at hb
      refine ⟨v, r, rfl, β, m, ρ, d, ρ1, rp, rs, r1.rw p, e1, fun σ1 rs1 o1 => ⟨β, m, ρ1, ds, ρ', rp, rs1, r2, hb, fun σ2 rs2 o2 => hq σ2 rs2 ⟨o2.1.trans o1.1, fun i hi => ?_⟩⟩⟩
      simp only [slotss, List.mem_append, not_or] at hi
      exact (o2.2 i hi.2).trans (o1.2 i hi.1)
theorem bindPs_len : ∀ (ps : List Pat) (ds : List D) (ρ ρ' : Env), bindPs ps ds ρ = some ρ' → ps.length = ds.length
  | [], [], _, _, _ => rfl
  | [], _ :: _, _, _, h => by simp [bindPs] at h
  | _ :: _, [], _, _, h => by simp [bindPs] at h
  | p :: ps, d :: ds, ρ, ρ', h => by
    simp only [bindPs] at h
    cases e1 : bindP p d ρ with
    | none => rw [e1] at h; cases h
    | some ρ1 => rw [e1] at h; simp [bindPs_len ps ds ρ1 ρ' h]
theorem ptup_ok (on : On G X) (hc : X.calm = true) (h : PGs X es (tPs G ps)) (hn : (assignEach es X.env).length = ps.length) (hst : (assignEach es X.env).findIdx? (·.1) = none) : PG X (.Tuple es k pos) (tP G (.tp ps)) := PG.imp (pg_tup hc h hn hst) fun v σ H Q h => by
  obtain ⟨β, m, ρ, d, ρ', rp, rs, rv, hb, hq⟩ := h
  cases d with
  | tup ds =>
    simp only [bindP] at hb
    obtain ⟨a, xs, rfl, h1, h2⟩ := rv ds rfl
    exact ⟨a, xs, rfl, on.K ▸ h1, by rw [h2.length, bindPs_len ps ds ρ ρ' hb], β, m, ρ, ds, ρ', rp, rs, h2, hb, hq⟩
  | _ => simp [bindP] at hb
end
/-- targets = a, targets in parentheses or not -/
def sTup (p : Pat) (a : Den) : DenS := fun fe ρ m => .ofE (a fe ρ m) ρ fun v m1 => match bindP p v ρ with
  | some ρ' => .next ρ' m1
  | none => .bad
section
variable {G : Gx} {X : Cx} {W : WX} {fe : FE} {a e tg : Expr} {d da di : Den} {pos p' : Pos} {p : Pat}
theorem stup_ok (he : PE X e (tE G W fe d)) (hg : PG X tg (tP G p)) (hs : swapsWithSole [tg] e pos.line X.env = pure false) (hw : swappedStores [tg] e X.env = pure none)
    (h1 : (assignEach [tg] X.env).map (·.2) = [assign tg X.env]) : PS X (.Assign [tg] e pos) (tS G W fe (sTup p d)) := PS.imp (ps_asg he hg hs hw h1) fun D σ H h => by
  obtain ⟨β, m, ρ, rp, rs, g⟩ := h
  refine ⟨β, m, ρ, rp, rs, GoodS.ofEE rp rs g fun v m1 H1 β1 u x rp1 rs1 ru g1 => ?_⟩
  cases q : bindP p v ρ with
  | none => rw [q] at g1; exact g1.elim
  | some ρ' =>
    rw [q] at g1
    exact ⟨β1, m1, ρ, v, ρ', rp1, rs1, ru.rw p, q, fun σ' rs' _ => g1 σ' β1 H1 Ext.refl rp1 rs'⟩
end
/-! ### o[i] = v -/
def setD (o i v : D) (m : Mem) : Option Mem := match o with
  | .loc l => match m[l]? with
    | some (.lst xs) => match i with
      | .int k => (ixN xs.length k).map fun j => m.set l (.lst (xs.set j v))
      | _ => none
    | some (.dict kvs false) => if kindOk kvs i = true ∧ (dPut kvs i v).length ≤ sizeLine then some (m.set l (.dict (dPut kvs i v) false)) else none
    | _ => none
  | _ => none
/-- the value first, then the object, then the index -/
def sSub (o i a : Den) : DenS := fun fe ρ m => .ofE (a fe ρ m) ρ fun v m1 => .ofE (o fe ρ m1) ρ fun x m2 => .ofE (i fe ρ m2) ρ fun k m3 => match setD x k v m3 with
  | some m4 => .next ρ m4
  | none => .bad
def rSetM (G : Gx) : TSet := fun o i v H Q => ∃ β m x k d, Rp G H β m ∧ RV G H β o x ∧ RV G H β i k ∧ RV G H β v d ∧ match setD x k d m with
  | some m' => ∀ β' H', Ext β H H' β' → Rp G H' β' m' → Q H'
  | none => False
section
variable {G : Gx} {X : Cx}
theorem set_ok (on : On G X) (hu : X.A.units + 64 < cLine) : PSet X (rSetM G) := by
  intro pins s σ H o i v ov iv u Q I ro ri rv h
  obtain ⟨β, m, x, k, d, rp, r1, r2, r3, h⟩ := h
  cases e : setD x k d m with
  | none => rw [e] at h; exact h.elim
  | some m' =>
    rw [e] at h
    unfold setD at e
    split at e
    · split at e
      · rename_i xs e1
        split at e
        · simp only [Option.map_eq_some_iff] at e
          obtain ⟨j, e2, rfl⟩ := e
          obtain ⟨p, zs, rfl, ha, h1, h2⟩ := rp.lst e1 r1
          simp only [RV] at r2; subst r2
          refine set_list pins s σ H _ _ v ov iv u Q I ro ri rv ⟨p, zs, _, j, rfl, rfl, h1, by rw [h2.length]; exact e2, ?_⟩
          have xw := Ext.write (H := H) (ob := .lst (zs.set j v)) ha
          have t := xw.tl rp
          exact h β _ xw (rp.write ha rfl ⟨_, upd_same, RVs.mono t (BL.refl _) _ _ (h2.set r3 j)⟩)
        · cases e
      · rename_i kvs e1
        split at e
        · rename_i c
          simp only [Option.some.injEq] at e
          subst e
          obtain ⟨p, es, ep, rfl, ha, hs, hl, h1, h2⟩ := rp.dict e1 r1
          cases ro
          refine dput_ok on hu I rp ha hs hl c.2 h1 h2 c.1 r2 ri r3 rv fun es' ep' s' I' rp' => ?_
          exact ⟨_, I', h β _ (Ext.write ha) rp'⟩
        · cases e
      · cases e
    · cases e
end
section
variable {G : Gx} {X : Cx} {W : WX} {fe : FE} {o i e : Expr} {da dO di : Den} {pos sp : Pos}
theorem ssub_ok (on : On G X) (hu : X.A.units + 64 < cLine) (he : PE X e (tE G W fe da)) (ho : PE X o (tE G W fe dO)) (hi : PE X i (tE G W fe di))
    (ha : ∀ v, assign (.Subscript o i sp) X.env v = (do
      let ov ← holding [v] (eval o X.env)
      let iv ← holding [v, ov] (eval i X.env)
      standAt sp
      holding [v, ov, iv] (setItem ov iv v)
      release [v, ov, iv] []))
    (hs : swapsWithSole [.Subscript o i sp] e pos.line X.env = pure false) (hw : swappedStores [.Subscript o i sp] e X.env = pure none) (h1 : (assignEach [.Subscript o i sp] X.env).map (·.2) = [assign (.Subscript o i sp) X.env]) :
    PS X (.Assign [.Subscript o i sp] e pos) (tS G W fe (sSub dO di da)) := PS.imp (ps_asg he (pg_sub ho hi (set_ok on hu) ha) hs hw h1) fun D σ H h => by
  obtain ⟨β, m, ρ, rp, rs, g⟩ := h
  refine ⟨β, m, ρ, rp, rs, GoodS.ofEE rp rs g fun v m1 H1 β1 u x rp1 rs1 ru g1 => ?_⟩
  refine ⟨β1, m1, ρ, rp1, rs1, GoodS.ofEE rp1 rs1 g1 fun xo m2 H2 β2 uo x2 rp2 rs2 ruo g2 => ?_⟩
  refine ⟨β2, m2, ρ, rp2, rs2, GoodS.ofEE rp2 rs2 g2 fun xi m3 H3 β3 ui x3 rp3 rs3 rui g3 => ?_⟩
  have ru' := RV.mono ((x2.trans x3).tl rp1) (x2.trans x3).bl _ _ ru
  have ruo' := RV.mono (x3.tl rp2) x3.bl _ _ ruo
  refine ⟨β3, m3, xo, xi, v, rp3, ruo', rui, ru', ?_⟩
  cases q : setD xo xi v m3 with
  | none => rw [q] at g3; exact g3.elim
  | some m4 =>
    rw [q] at g3
    exact fun β' H' x4 rp4 => g3 σ β' H' x4 rp4 (rs3.ext rp3 x4)
end
end Mn
set_option Elab.async false
set_option linter.all false
set_option maxRecDepth 100000
set_option maxHeartbeats 1000000
/-! Mn12: what is gone through. -/
namespace Mn
open PySem L2 PySem.Spec PyProof.Rows
/-- locked things persist -/
def LK (β : List Pl) (H H' : Hp) : Prop := ∀ b o, (b, true) ∈ β → H b = some o → H' b = some o
/-- later on -/
structure Lt (G : Gx) (β1 : List Pl) (H1 : Hp) (β : List Pl) (H : Hp) : Prop where
  tl : TL G.K H1 H
  bl : BL β1 β
  lk : LK β1 H1 H
theorem Lt.refl {G : Gx} {β : List Pl} {H : Hp} : Lt G β H β H := ⟨TL.refl _ _, BL.refl _, fun _ _ _ h => h⟩
theorem BL.mem {β β' : List Pl} (h : BL β β') {p : Pl} (m : p ∈ β) : p ∈ β' := by
  obtain ⟨x, rfl⟩ := h
  exact List.mem_append_left _ m
theorem nd_flag {β : List Pl} (h : (β.map (·.1)).Nodup) {b : Addr} (h1 : (b, true) ∈ β) : (b, false) ∉ β := by
  induction β with
  | nil => simp at h1
  | cons p ps ih =>
    simp only [List.map_cons, List.nodup_cons, List.mem_map, not_exists, not_and] at h
    intro h2
    rcases List.mem_cons.mp h1 with e1 | h1 <;> rcases List.mem_cons.mp h2 with e2 | h2
    · rw [← e1] at e2; cases e2
    · exact h.1 (b, false) h2 (by rw [← e1])
    · exact h.1 (b, true) h1 (by rw [← e2])
    · exact ih h.2 h1 h2
theorem Lt.ext {G : Gx} {β1 β β' : List Pl} {H1 H H' : Hp} {m : Mem} (a : Lt G β1 H1 β H) (rp : Rp G H β m) (x : Ext β H H' β') : Lt G β1 H1 β' H' :=
  ⟨a.tl.trans (x.tl rp), a.bl.trans x.bl, fun b o hb e => x.fr b o (a.lk b o hb e) (nd_flag rp.nd (a.bl.mem hb))⟩
abbrev Watch := List (Nat × O)
def watchOk (w : Watch) (m : Mem) : Bool := w.all fun p => decide (m[p.1]? = some p.2)
/-- what an iterator yields, while something must stay as it is -/
structure ItOk (G : Gx) (J : It) (p : Pat) (xs : List D) (w : Watch) (H1 : Hp) (β1 : List Pl) : Prop where
  stop : ∀ H β m, Lt G β1 H1 β H → Rp G H β m → watchOk w m = true → J.stop xs.length H
  go : ∀ i d H β m, Lt G β1 H1 β H → Rp G H β m → watchOk w m = true → xs[i]? = some d → J.go i H
  yld : ∀ i d x H H' β m, Lt G β1 H1 β H → Rp G H β m → watchOk w m = true → xs[i]? = some d → J.yld i H x H' → Hle H H' ∧ RW G H' β p x d
/-- the items, what must stay, what is locked -/
structure Itr where
  xs : List D
  w : Watch
  lk : Option Nat
abbrev DenI := FE → Env → Mem → Out Itr
def lockM (lk : Option Nat) (m : Mem) : Mem := match lk with
  | none => m
  | some l => match m[l]? with
    | some (.dict kvs false) => m.set l (.dict kvs true)
    | _ => m
def unlockM (lk : Option Nat) (m : Mem) : Mem := match lk with
  | none => m
  | some l => match m[l]? with
    | some (.dict kvs true) => m.set l (.dict kvs false)
    | _ => m
def flagB (lk : Option Nat) (f : Bool) (β : List Pl) : List Pl := match lk with
  | none => β
  | some l => match β[l]? with
    | some (a, _) => β.set l (a, f)
    | none => β
/-- lk names a dict that is not locked -/
def canLock (lk : Option Nat) (m : Mem) : Prop := match lk with
  | none => True
  | some l => ∃ kvs, m[l]? = some (.dict kvs false)
/-- the reading of what is gone through -/
def tI (G : Gx) (W : WX) (fe : FE) (p : Pat) (d : DenI) : TI := fun σ H R => ∃ β m ρ, Rp G H β m ∧ RS G H β σ ρ ∧
  GoodO G (fun c d H' => W c d σ H') H β (fun I m1 H1 β1 => canLock I.lk m1 → ∀ J, ItOk G J p I.xs I.w H1 (flagB I.lk true β1) → R J H1) (d fe ρ m)
theorem PI.imp {X : Cx} {tg iter : Expr} {t t' : TI} (h : PI X tg iter t) (f : ∀ σ H R, t' σ H R → t σ H R) : PI X tg iter t' := ⟨fun pins s σ H R I x => h.run pins s σ H R I (f σ H R x)⟩
/-! ### flags do not matter to values -/
def AL (β β' : List Pl) : Prop := ∀ (l : Nat) (a : Addr) (f : Bool), β[l]? = some (a, f) → ∃ f', β'[l]? = some (a, f')
mutual
theorem RV.al {G : Gx} {H : Hp} {β β' : List Pl} (b : AL β β') : ∀ (d : D) (v : V), RV G H β v d → RV G H β' v d
  | .non, v, h => by simpa [RV] using h
  | .bl _, v, h => by simpa [RV] using h
  | .int _, v, h => by simpa [RV] using h
  | .str _, v, h => by simpa [RV] using h
  | .tup ds, v, h => by
    simp only [RV] at h ⊢
    obtain ⟨a, xs, e, hs, hr⟩ := h
    exact ⟨a, xs, e, hs, RVs.al b ds xs hr⟩
  | .seq ds, v, h => by
    simp only [RV] at h ⊢
    obtain ⟨a, xs, e, hs, hr⟩ := h
    exact ⟨a, xs, e, hs, RVs.al b ds xs hr⟩
  | .loc l, v, h => by
    simp only [RV] at h ⊢
    obtain ⟨a, f, e, hl⟩ := h
    obtain ⟨f', hl'⟩ := b l a f hl
    exact ⟨a, f', e, hl'⟩
  | .fn n, v, h => by simpa [RV] using h
theorem RVs.al {G : Gx} {H : Hp} {β β' : List Pl} (b : AL β β') : ∀ (ds : List D) (vs : List V), RVs G H β vs ds → RVs G H β' vs ds
  | [], vs, h => by simpa [RVs] using h
  | d :: ds, vs, h => by
    simp only [RVs] at h ⊢
    obtain ⟨x, r, e, h1, h2⟩ := h
    exact ⟨x, r, e, RV.al b d x h1, RVs.al b ds r h2⟩
end
theorem RS.al {G : Gx} {H : Hp} {β β' : List Pl} {σ : L2.St} {ρ : Env} (b : AL β β') (r : RS G H β σ ρ) : RS G H β' σ ρ := ⟨r.len, fun i d e => let ⟨v, h1, h2⟩ := r.at_ i d e; ⟨v, h1, RV.al b d v h2⟩⟩
theorem RValue.al {G : Gx} {H : Hp} {β β' : List Pl} (b : AL β β') {u : Value} {d : D} (h : RValue G H β u d) : RValue G H β' u d := let ⟨v, r, q⟩ := h; ⟨v, r, RV.al b d v q⟩
theorem RO.al {G : Gx} {H : Hp} {β β' : List Pl} (b : AL β β') {a : Addr} {o : O} (h : RO G H β a o) : RO G H β' a o := by
  cases o with
  | lst ds => obtain ⟨xs, h1, h2⟩ := h; exact ⟨xs, h1, RVs.al b ds xs h2⟩
  | dict kvs lk =>
    obtain ⟨h1, h2, es, ep, h3, h4⟩ := h
    refine ⟨h1, h2, es, ep, h3, ?_⟩
    rcases h4 with ⟨ks, g1, g2, g3, g4⟩ | ⟨ks, g1, g2, g3⟩
    · exact .inl ⟨ks, g1, g2, g3, Paired.mapP g4 fun _ _ z => ⟨z.1, z.2.al b⟩⟩
    · exact .inr ⟨ks, g1, g2, Paired.mapP g3 fun _ _ z => ⟨z.1, z.2.1, RV.al b _ _ z.2.2.1, z.2.2.2.al b⟩⟩
  | inst c fs => obtain ⟨C, dx, vs, h1, h2, h3, h4⟩ := h; exact ⟨C, dx, vs, h1, h2, h3, Paired.mapP h4 fun _ _ z => ⟨z.1, RV.al b _ _ z.2⟩⟩
theorem RX.al {G : Gx} {H : Hp} {β β' : List Pl} (b : AL β β') {cls : Value} {dd : Option Addr} {c : Nat} {p : Option D} (h : RX G H β cls dd c p) : RX G H β' cls dd c p := by
  obtain ⟨C, e1, e2, e3⟩ := h
  refine ⟨C, e1, e2, ?_⟩
  cases p with
  | none => exact e3
  | some d => obtain ⟨x, v, h1, h2, h3⟩ := e3; exact ⟨x, v, h1, h2, RV.al b d v h3⟩
theorem RO.flag {G : Gx} {H : Hp} {β : List Pl} {a : Addr} {kvs : List (D × D)} {lk lk' : Bool} (h : RO G H β a (.dict kvs lk)) : RO G H β a (.dict kvs lk') := h
theorem al_flag (lk : Option Nat) (f : Bool) (β : List Pl) : AL β (flagB lk f β) := by
  intro l a g h
  unfold flagB
  cases lk with
  | none => exact ⟨g, h⟩
  | some k =>
    simp only
    cases e : β[k]? with
    | none => exact ⟨g, h⟩
    | some p =>
      obtain ⟨b, _⟩ := p
      simp only
      by_cases hk : k = l
      · subst hk
        rw [h] at e; cases e
        exact ⟨f, List.getElem?_set_self (List.getElem?_eq_some_iff.mp h).1⟩
      · exact ⟨g, by rw [List.getElem?_set_ne hk]; exact h⟩
theorem flag_map (lk : Option Nat) (f : Bool) (β : List Pl) : (flagB lk f β).map (·.1) = β.map (·.1) := by
  unfold flagB
  cases lk with
  | none => rfl
  | some k =>
    simp only
    cases e : β[k]? with
    | none => rfl
    | some p =>
      obtain ⟨b, g⟩ := p
      simp only [List.map_set]
      apply List.ext_getElem?
      intro i
      by_cases hk : k = i
      · subst hk
        rw [List.getElem?_set_self (by simpa using (List.getElem?_eq_some_iff.mp e).1), List.getElem?_map, e]; rfl
      · rw [List.getElem?_set_ne hk]
/-- the flag of one dict is changed -/
theorem Rp.flag {G : Gx} {H : Hp} {β : List Pl} {m : Mem} {l : Nat} {kvs : List (D × D)} {f f' : Bool} (r : Rp G H β m) (hm : m[l]? = some (.dict kvs f)) : Rp G H (flagB (some l) f' β) (m.set l (.dict kvs f')) where
  len := by
    have := congrArg List.length (flag_map (some l) f' β)
    simp only [List.length_map] at this
    rw [List.length_set, this, r.len]
  nd := by rw [flag_map]; exact r.nd
  at_ := fun j o a g e1 e2 => by
    have hl : l < β.length := by rw [r.len]; exact (List.getElem?_eq_some_iff.mp hm).1
    have hb : β[l]? = some β[l] := List.getElem?_eq_getElem hl
    obtain ⟨b, fb, hb⟩ : ∃ b fb, β[l]? = some (b, fb) := ⟨_, _, hb⟩
    have ef : flagB (some l) f' β = β.set l (b, f') := by simp only [flagB, hb]
    by_cases hj : l = j
    · subst hj
      rw [List.getElem?_set_self (by rw [← r.len]; exact hl)] at e1
      rw [ef, List.getElem?_set_self hl] at e2
      cases e1
      cases e2
      exact ⟨rfl, ((r.at_ l _ _ fb hm hb).2.flag (lk' := f')).al (al_flag _ _ _)⟩
    · rw [List.getElem?_set_ne hj] at e1
      rw [ef, List.getElem?_set_ne hj] at e2
      obtain ⟨h1, h2⟩ := r.at_ j o a g e1 e2
      exact ⟨h1, h2.al (al_flag _ _ _)⟩
theorem Rp.lock {G : Gx} {H : Hp} {β : List Pl} {m : Mem} {lk : Option Nat} (r : Rp G H β m) (h : canLock lk m) : Rp G H (flagB lk true β) (lockM lk m) := by
  cases lk with
  | none => exact r
  | some l =>
    obtain ⟨kvs, e⟩ := h
    have := r.flag (f' := true) e
    simpa only [lockM, e] using this
theorem flag_at {β : List Pl} {l : Nat} {f : Bool} (h : l < β.length) : ∃ a, (flagB (some l) f β)[l]? = some (a, f) := by
  have hb : β[l]? = some β[l] := List.getElem?_eq_getElem h
  generalize β[l] = p at hb
  obtain ⟨a, g⟩ := p
  exact ⟨a, by simp only [flagB, hb]; exact List.getElem?_set_self h⟩
theorem Rp.unlock {G : Gx} {H : Hp} {β β1 : List Pl} {m : Mem} {lk : Option Nat} (r : Rp G H β m) (hl : ∀ l, lk = some l → l < β1.length) (b : BL (flagB lk true β1) β) : Rp G H (flagB lk false β) (unlockM lk m) := by
  cases lk with
  | none => exact r
  | some l =>
    obtain ⟨a, ha⟩ := flag_at (f := true) (hl l rfl)
    have ha' := b.get ha
    have hlt : l < m.length := by rw [← r.len]; exact (List.getElem?_eq_some_iff.mp ha').1
    have hm : m[l]? = some m[l] := List.getElem?_eq_getElem hlt
    obtain ⟨hf, ro⟩ := r.at_ l _ a true hm ha'
    generalize m[l] = o at hm hf ro
    cases o with
    | dict kvs f =>
      cases (show true = f from hf)
      have := r.flag (f' := false) hm
      simpa only [unlockM, hm] using this
    | lst xs => cases hf
    | inst c fs => cases hf
/-- the run between, seen from outside -/
theorem Ext.unlock {H1 H2 : Hp} {β1 β2 : List Pl} {lk : Option Nat} (hl : ∀ l, lk = some l → ∃ a, β1[l]? = some (a, false)) (x : Ext (flagB lk true β1) H1 H2 β2) : Ext β1 H1 H2 (flagB lk false β2) := by
  cases lk with
  | none => exact x
  | some l =>
    obtain ⟨a, ha⟩ := hl l rfl
    have hlt := (List.getElem?_eq_some_iff.mp ha).1
    have e1 : flagB (some l) true β1 = β1.set l (a, true) := by simp only [flagB, ha]
    rw [e1] at x
    obtain ⟨more, hb⟩ := x.bl
    have e2 : β2[l]? = some (a, true) := by rw [hb, List.getElem?_append_left (by simpa using hlt)]; exact List.getElem?_set_self hlt
    have e3 : flagB (some l) false β2 = β1 ++ more := by
      simp only [flagB, e2]
      rw [hb, List.set_append_left _ _ (by simpa using hlt), List.set_set]
      congr 1
      apply List.ext_getElem?
      intro i
      by_cases hi : l = i
      · subst hi; rw [List.getElem?_set_self hlt, ha]
      · rw [List.getElem?_set_ne hi]
    rw [e3]
    refine ⟨⟨more, rfl⟩, fun b o e n => x.fr b o e fun h => n ?_, fun b f h => ?_⟩
    · rcases List.mem_or_eq_of_mem_set h with h | h
      · exact h
      · cases h
    · rcases List.mem_append.mp h with h | h
      · exact .inr (.inl h)
      · rcases x.nw b f (by rw [hb]; exact List.mem_append_right _ h) with h | h | h
        · rcases List.mem_or_eq_of_mem_set h with h | h
          · exact .inl h
          · cases h
        · rcases List.mem_or_eq_of_mem_set h with h | h
          · exact .inr (.inl h)
          · cases h; exact .inl (List.mem_of_getElem? ha)
        · exact .inr (.inr h)
theorem canLock_at {G : Gx} {H : Hp} {β : List Pl} {m : Mem} {lk : Option Nat} (r : Rp G H β m) (h : canLock lk m) : ∀ l, lk = some l → ∃ a, β[l]? = some (a, false) := by
  intro l e
  subst e
  obtain ⟨kvs, e⟩ := h
  have hlt : l < β.length := by rw [r.len]; exact (List.getElem?_eq_some_iff.mp e).1
  have hb : β[l]? = some β[l] := List.getElem?_eq_getElem hlt
  generalize β[l] = p at hb
  obtain ⟨a, f⟩ := p
  obtain ⟨hf, _⟩ := r.at_ l _ a f e hb
  cases (show f = false from hf)
  exact ⟨a, hb⟩
def unlockS (lk : Option Nat) : OutS → OutS
  | .next ρ m => .next ρ (unlockM lk m)
  | .brk ρ m => .brk ρ (unlockM lk m)
  | .cont ρ m => .cont ρ (unlockM lk m)
  | .ret v m => .ret v (unlockM lk m)
  | .exc c p ρ m => .exc c p ρ (unlockM lk m)
  | .bad => .bad
theorem GoodS.unlock {G : Gx} {W : WX} {D : Ends} {H : Hp} {β : List Pl} {lk : Option Nat} {r : OutS} (hl : ∀ l, lk = some l → ∃ a, β[l]? = some (a, false)) (h : GoodS G W D H β (unlockS lk r)) : GoodS G W D H (flagB lk true β) r := by
  have hl' : ∀ l, lk = some l → l < β.length := fun l e => by obtain ⟨a, ha⟩ := hl l e; exact (List.getElem?_eq_some_iff.mp ha).1
  cases r with
  | next ρ m => exact fun σ' β' H' x r s => h σ' _ H' (Ext.unlock hl x) (r.unlock hl' x.bl) (s.al (al_flag _ _ _))
  | brk ρ m => exact fun σ' β' H' x r s => h σ' _ H' (Ext.unlock hl x) (r.unlock hl' x.bl) (s.al (al_flag _ _ _))
  | cont ρ m => exact fun σ' β' H' x r s => h σ' _ H' (Ext.unlock hl x) (r.unlock hl' x.bl) (s.al (al_flag _ _ _))
  | ret v m => exact fun u β' H' x r s => h u _ H' (Ext.unlock hl x) (r.unlock hl' x.bl) (RV.al (al_flag _ _ _) _ _ s)
  | exc c p ρ m => exact fun cls dd σ' β' H' x r s z => h cls dd σ' _ H' (Ext.unlock hl x) (r.unlock hl' x.bl) (s.al (al_flag _ _ _)) (z.al (al_flag _ _ _))
  | bad => exact h
end Mn
set_option Elab.async false
set_option linter.all false
set_option maxRecDepth 100000
set_option maxHeartbeats 1000000
/-! Mn13: iterables, loops. -/
namespace Mn
open PySem L2 PySem.Spec PyProof.Rows
def vOf : Value → Option V
  | .none => some .non
  | .bool b => some (.bl b)
  | .int i _ => some (.int i)
  | .str x _ => some (.str x)
  | .bytes b _ => some (.byt b)
  | .float b _ => some (.flt b)
  | .ref a => some (.ref a)
  | .type n => some (.ty n)
  | _ => none
theorem vOf_rel {v : V} {u : Value} (h : RelV v u) : vOf u = some v := by
  cases v with
  | non => cases (show u = Value.none from h); rfl
  | bl b => cases (show u = Value.bool b from h); rfl
  | int i => obtain ⟨t, rfl⟩ := (show ∃ t, u = Value.int i t from h); rfl
  | str i => obtain ⟨t, rfl⟩ := (show ∃ t, u = Value.str i t from h); rfl
  | byt i => obtain ⟨t, rfl⟩ := (show ∃ t, u = Value.bytes i t from h); rfl
  | flt i => obtain ⟨t, rfl⟩ := (show ∃ t, u = Value.float i t from h); rfl
  | ref a => cases (show u = Value.ref a from h); rfl
  | ty a => cases (show u = Value.type a from h); rfl
theorem relV_uniq {v v' : V} {u : Value} (h : RelV v u) (h' : RelV v' u) : v = v' := Option.some.inj ((vOf_rel h).symm.trans (vOf_rel h'))
/-! ### the keys of a dict -/
def Itd0 (d : Addr) (es : Array DictEntry) (ep : Nat) : It :=
  ⟨fun i H => H d = some (dictO d es ep) ∧ ∃ x en, es[i]? = some en ∧ RelV x en.key, fun i H x H' => H' = H ∧ ∃ en, es[i]? = some en ∧ RelV x en.key, fun i H => H d = some (dictO d es ep) ∧ es.size ≤ i⟩
section
variable {P : Program} {w : World} {K : PySem.W.Frag} {tg : Expr} {d : Addr} {es : Array DictEntry} {ep : Nat}
theorem dictO_ep {X : Cx} {pins : List (Addr × Obj)} {σ : L2.St} {H : Hp} {s : Shared} (I : L2.Inv X pins σ H s) (h : H d = some (dictO d es ep)) : ∃ o, s.heap.get? d = some o ∧ o.ExactDict ∧ o.data = .dict es ep := (I.hok d _ h).1
theorem turn_d0 (it : Addr) : Turn P w K tg (Itd0 d es ep) [it] it (fun i h => h.IsKeyIter it d i es.size ep) where
  mem := by simp
  obj := fun i h st b hb => by
    have e : b = it := by simpa using hb
    subst e
    obtain ⟨oi, e, c, dd⟩ := st
    exact ⟨oi, e, fun v z => by rw [dd] at z; cases z⟩
  keep := fun i h h' st k => st.at fun oi e => k it (by simp) oi e
  item := by
    intro X hP hw hK hc i pins s σ H E I hf st hg
    subst hP hw hK
    obtain ⟨hd, x, en, hen, hrx⟩ := hg
    obtain ⟨f0, f1, f2, f3, f4, f5⟩ := hf it (by simp)
    obtain ⟨o, ho, hx, hdt⟩ := dictO_ep I hd
    refine next_key_item st ho hdt rfl hen fun h' st' sb => ?_
    have I1 : L2.Inv X pins σ H { s with heap := h' } := I.turned (t' := s.toks) (fun b ob hb e => (sb.2 b hb).trans e) f0 f1 f3 f4 f5
    obtain ⟨oi, e, c, dd⟩ := id st'
    exact ⟨en.key, rfl, go_of (s := { s with heap := h' }) e c dd (by decide) ⟨x, H, I1, hrx, ⟨rfl, en, hen, hrx⟩, st', fun b hb => (hf b hb).1⟩⟩
  done := by
    intro X hP hw hK hc i pins s σ H E I hf st hg
    subst hP hw hK
    obtain ⟨hd, hi⟩ := hg
    obtain ⟨f0, f1, f2, f3, f4, f5⟩ := hf it (by simp)
    obtain ⟨o, ho, hx, hdt⟩ := dictO_ep I hd
    exact next_key_end (I.ok.hd hc) st ho hdt rfl hi fun h' eb => ⟨rfl, I.turned (t' := s.toks) (fun b ob hb e => eb b ob hb e) f0 f1 f3 f4 f5⟩
  self := fun A i s Q E st h => by
    refine wpAny_pyIter_slot st.typeIs PySem.F.slot_dict_keyiterator_iter (wpAny_call_entry PySem.F.slot_dict_keyiterator_iter st.typeIs PySem.F.entry_dict_keyiterator_iter ?_ (PySem.F.args_dict_keyiterator_iter_1 _))
    show wpAny _ _ (ret (.ref it)) _ _ s
    exact wpAny_pure ⟨_, rfl, "dict_keyiterator", _, st.typeIs, PySem.F.slot_dict_keyiterator_next.lookup, h⟩
end
/-- a list, a tuple, a text, a dict's keys -/
def iAnyT (K : PySem.W.Frag) (tl : TE) : TI := fun σ H R => tl σ H fun x H1 =>
  (∃ a xs, x = .ref a ∧ SqL K H1 a xs ∧ R (Itl K a) H1) ∨ (∃ a xs, x = .ref a ∧ SqT K H1 a xs ∧ R (Itt K a) H1) ∨ (∃ z, x = .str z ∧ R (Its z) H1) ∨
    ∃ a es ep, x = .ref a ∧ (a == sysModules) = false ∧ H1 a = some (dictO a es ep) ∧ R (Itd0 a es ep) H1
theorem pi_any {X : Cx} {tg l : Expr} {tl : TE} (hl : PE X l tl) : PI X tg l (iAnyT X.K tl) := by
  refine ⟨fun pins s σ H R I h => ?_⟩
  refine thn (hl.run pins s σ H _ I h) fun v s1 ⟨x, H1, I1, r1, q1⟩ => ?_
  rcases q1 with ⟨a, xs, rfl, hq, hr⟩ | ⟨a, xs, rfl, hq, hr⟩ | ⟨z, rfl, hr⟩ | ⟨a, es, ep, rfl, hs, hd, hr⟩
  · cases r1
    obtain ⟨its, rv, p, hz⟩ := I1.list hq
    refine wpAny_pyIter_list p.isList ?_
    refine ⟨s1.heap.objs.size, [s1.heap.objs.size], _, _, H1, rfl, I1.kept (t' := s1.toks) fun b o e => Heap.get?_push_of_some _ e, turn_list a _, ⟨_, Heap.get?_push_size _ rfl, rfl, rfl⟩, fun b hb => ?_, hr⟩
    have e : b = s1.heap.objs.size := by simpa using hb
    subst e
    exact I1.fpOk (Nat.le_refl _) (I1.hok.fresh (Nat.le_refl _))
  · cases r1
    obtain ⟨its, rv, p, hz⟩ := I1.tuple hq
    refine wpAny_pyIter_tuple (show s1.heap.IsTuple a its.toArray from p) ?_
    refine ⟨s1.heap.objs.size, [s1.heap.objs.size], _, _, H1, rfl, I1.kept (t' := s1.toks) fun b o e => Heap.get?_push_of_some _ e, turn_tuple a _, ⟨_, Heap.get?_push_size _ rfl, rfl, rfl⟩, fun b hb => ?_, hr⟩
    have e : b = s1.heap.objs.size := by simpa using hb
    subst e
    exact I1.fpOk (Nat.le_refl _) (I1.hok.fresh (Nat.le_refl _))
  · obtain ⟨t, rfl⟩ := r1
    cases ha : z.cps.all (· < 128)
    · exact wpAny_pyIter_wide ha (pi_one (tk := s1.toks) I1 _ (turn_str _ z t "str_iterator" (.inr rfl)) ⟨_, Heap.get?_push_size _ rfl, rfl, rfl⟩ hr)
    · exact wpAny_pyIter_ascii ha (pi_one (tk := s1.toks) I1 _ (turn_str _ z t "str_ascii_iterator" (.inl rfl)) ⟨_, Heap.get?_push_size _ rfl, rfl, rfl⟩ hr)
  · cases r1
    obtain ⟨o, ho, hx, hdt⟩ := dictO_ep I1 hd
    exact iter_keys hs ho hx hdt (pi_one (tk := s1.toks) I1 _ (turn_d0 _) ⟨_, Heap.get?_push_size _ rfl, rfl, rfl⟩ hr)
section
variable {G : Gx} {H1 : Hp} {β1 : List Pl}
theorem watch1 {l : Nat} {o : O} {m : Mem} (h : watchOk [(l, o)] m = true) : m[l]? = some o := by
  simpa [watchOk] using h
theorem it_tup {K : PySem.W.Frag} (hk : K = G.K) {a : Addr} {zs : List V} {xs : List D} {p : Pat} (h1 : FzT G.K H1 a zs) (h2 : RVs G H1 β1 zs xs) : ItOk G (Itt K a) p xs [] H1 β1 := by
  subst hk
  refine ⟨fun H β m t rp w => ⟨zs, (t.tl.1 _ _ h1).sq, by rw [h2.length]; exact Nat.le_refl _⟩, fun i d H β m t rp w hi => ?_, fun i d x H H' β m t rp w hi hy => ?_⟩
  · obtain ⟨v, e, r⟩ := h2.get hi
    exact ⟨zs, v, (t.tl.1 _ _ h1).sq, e⟩
  · obtain ⟨rfl, hx⟩ := hy
    obtain ⟨v, e, r⟩ := h2.get hi
    have := hx zs (t.tl.1 _ _ h1).sq
    rw [e] at this
    cases this
    exact ⟨fun b o e => e, (RV.mono t.tl t.bl _ _ r).rw p⟩
theorem it_seq {K : PySem.W.Frag} (hk : K = G.K) {a : Addr} {zs : List V} {xs : List D} {p : Pat} (h1 : FzL G.K H1 a zs) (h2 : RVs G H1 β1 zs xs) : ItOk G (Itl K a) p xs [] H1 β1 := by
  subst hk
  refine ⟨fun H β m t rp w => ⟨zs, (t.tl.2 _ _ h1).sq, by rw [h2.length]; exact Nat.le_refl _⟩, fun i d H β m t rp w hi => ?_, fun i d x H H' β m t rp w hi hy => ?_⟩
  · obtain ⟨v, e, r⟩ := h2.get hi
    exact ⟨zs, v, (t.tl.2 _ _ h1).sq, e⟩
  · obtain ⟨rfl, hx⟩ := hy
    obtain ⟨v, e, r⟩ := h2.get hi
    have := hx zs (t.tl.2 _ _ h1).sq
    rw [e] at this
    cases this
    exact ⟨fun b o e => e, (RV.mono t.tl t.bl _ _ r).rw p⟩
/-- a list's items while it stays as it is -/
theorem lst_at {a : Addr} {l : Nat} {xs : List D} (ha : β1[l]? = some (a, false)) {H : Hp} {β : List Pl} {m : Mem} (t : Lt G β1 H1 β H) (rp : Rp G H β m) (w : m[l]? = some (.lst xs)) : ∃ zs, H a = some (.lst zs) ∧ RVs G H β zs xs := by
  obtain ⟨a', zs, e, h1, h2, h3⟩ := rp.lst (v := .ref a) w (by simp only [RV]; exact ⟨a, false, rfl, t.bl.get ha⟩)
  cases e
  exact ⟨zs, h2, h3⟩
theorem it_lst {K : PySem.W.Frag} (hk : K = G.K) {a : Addr} {l : Nat} {xs : List D} {p : Pat} (ha : β1[l]? = some (a, false)) : ItOk G (Itl K a) p xs [(l, .lst xs)] H1 β1 := by
  subst hk
  refine ⟨fun H β m t rp w => ?_, fun i d H β m t rp w hi => ?_, fun i d x H H' β m t rp w hi hy => ?_⟩
  · obtain ⟨zs, h1, h2⟩ := lst_at ha t rp (watch1 w)
    exact ⟨zs, SqL.of h1, by rw [h2.length]; exact Nat.le_refl _⟩
  · obtain ⟨zs, h1, h2⟩ := lst_at ha t rp (watch1 w)
    obtain ⟨v, e, r⟩ := h2.get hi
    exact ⟨zs, v, SqL.of h1, e⟩
  · obtain ⟨rfl, hx⟩ := hy
    obtain ⟨zs, h1, h2⟩ := lst_at ha t rp (watch1 w)
    obtain ⟨v, e, r⟩ := h2.get hi
    have := hx zs (SqL.of h1)
    rw [e] at this
    cases this
    exact ⟨fun b o e => e, r.rw p⟩
def signs (z : Str) : List D := z.cps.toList.map fun c => .str ⟨#[c]⟩
theorem it_str {z : Str} {p : Pat} : ItOk G (Its z) p (signs z) [] H1 β1 := by
  refine ⟨fun H β m t rp w => ?_, fun i d H β m t rp w hi => ?_, fun i d x H H' β m t rp w hi hy => ?_⟩
  · show z.cps.size ≤ (signs z).length
    simp [signs]
  · have := (List.getElem?_eq_some_iff.mp hi).1
    show i < z.cps.size
    simpa [signs] using this
  · obtain ⟨rfl, c, hc, rfl⟩ := hy
    rw [signs, List.getElem?_map, Array.getElem?_toList, hc] at hi
    cases hi
    exact ⟨fun b o e => e, RV.rw p (by simp [RV])⟩
theorem it_dict {a : Addr} {es : Array DictEntry} {ep : Nat} {kvs : List (D × D)} {p : Pat} (hm : (a, true) ∈ β1) (h : H1 a = some (dictO a es ep)) (pe : PE2 G H1 β1 es.toList kvs) : ItOk G (Itd0 a es ep) p (kvs.map (·.1)) [] H1 β1 := by
  obtain ⟨l1, l2⟩ := Paired.get1 pe
  have at_ : ∀ (i : Nat) (d : D), (kvs.map (·.1))[i]? = some d → ∃ en : DictEntry, es[i]? = some en ∧ RValue G H1 β1 en.key d := by
    intro i d hi
    rw [List.getElem?_map] at hi
    obtain ⟨q, hq, rfl⟩ := Option.map_eq_some_iff.mp hi
    have hlt := (List.getElem?_eq_some_iff.mp hq).1
    have hlt' : i < es.toList.length := by omega
    have he : es.toList[i]? = some es.toList[i] := List.getElem?_eq_getElem hlt'
    exact ⟨_, by rw [← Array.getElem?_toList]; exact he, (l2 i _ q he hq).1⟩
  refine ⟨fun H β m t rp w => ⟨t.lk a _ hm h, ?_⟩, fun i d H β m t rp w hi => ?_, fun i d x H H' β m t rp w hi hy => ?_⟩
  · have : es.size = kvs.length := by simpa using l1
    simp [this]
  · obtain ⟨en, he, v, r1, r2⟩ := at_ i d hi
    exact ⟨t.lk a _ hm h, v, en, he, r1⟩
  · obtain ⟨rfl, en, he, rx⟩ := hy
    obtain ⟨en', he', v, r1, r2⟩ := at_ i d hi
    rw [he] at he'; cases he'
    rw [relV_uniq rx r1]
    exact ⟨fun b o e => e, (RV.mono t.tl t.bl _ _ r2).rw p⟩
end
def iAny (a : Den) : DenI := fun fe ρ m => (a fe ρ m).bind fun d m1 => match d with
  | .tup xs => .ok ⟨xs, [], none⟩ m1
  | .seq xs => .ok ⟨xs, [], none⟩ m1
  | .str z => .ok ⟨signs z, [], none⟩ m1
  | .loc l => match m1[l]? with
    | some (.lst xs) => .ok ⟨xs, [(l, .lst xs)], none⟩ m1
    | some (.dict kvs lk) => .ok ⟨kvs.map (·.1), [], if lk = true then none else some l⟩ m1
    | _ => .bad
  | _ => .bad
section
variable {G : Gx} {X : Cx} {W : WX} {fe : FE} {e tg : Expr} {d : Den} {p : Pat}
theorem iany_ok (on : On G X) (he : PE X e (tE G W fe d)) : PI X tg e (tI G W fe p (iAny d)) := PI.imp (pi_any he) fun σ H R h => by
  obtain ⟨β, m, ρ, rp, rs, g⟩ := h
  refine ⟨β, m, ρ, rp, rs, (GoodO.mono (GoodO.bind g) fun x m1 H1 β1 e1 rp1 g1 u ru => ?_).e⟩
  cases x with
  | tup xs =>
    simp only [RV] at ru
    obtain ⟨a, zs, rfl, h1, h2⟩ := ru
    exact .inr (.inl ⟨a, zs, rfl, on.K ▸ h1.sq, g1 β1 H1 Ext.refl rp1 trivial _ (it_tup on.K h1 h2)⟩)
  | seq xs =>
    simp only [RV] at ru
    obtain ⟨a, zs, rfl, h1, h2⟩ := ru
    exact .inl ⟨a, zs, rfl, on.K ▸ h1.sq, g1 β1 H1 Ext.refl rp1 trivial _ (it_seq on.K h1 h2)⟩
  | str z =>
    simp only [RV] at ru; subst ru
    exact .inr (.inr (.inl ⟨z, rfl, g1 β1 H1 Ext.refl rp1 trivial _ it_str⟩))
  | loc l =>
    simp only at g1
    split at g1
    · rename_i xs e
      obtain ⟨a, zs, rfl, ha, h1, h2⟩ := rp1.lst e ru
      exact .inl ⟨a, zs, rfl, SqL.of h1, g1 β1 H1 Ext.refl rp1 trivial _ (it_lst on.K ha)⟩
    · rename_i kvs lk e
      obtain ⟨a, es, ep, rfl, ha, hs, hl, h2, h3⟩ := rp1.dict e ru
      refine .inr (.inr (.inr ⟨a, es, ep, rfl, hs, h2, ?_⟩))
      cases lk with
      | true => exact g1 β1 H1 Ext.refl rp1 trivial _ (it_dict (List.mem_of_getElem? ha) h2 (ent_all h3))
      | false =>
        refine g1 β1 H1 Ext.refl rp1 ⟨kvs, e⟩ _ (it_dict ?_ h2 ((Paired.mapP (ent_all h3) fun _ _ z => ⟨z.1.al (al_flag _ _ _), z.2.al (al_flag _ _ _)⟩)))
        show (a, true) ∈ flagB (some l) true β1
        simp only [flagB, ha]
        exact List.mem_of_getElem? (List.getElem?_set_self (List.getElem?_eq_some_iff.mp ha).1)
    · exact False.elim g1
  | _ => exact False.elim g1
end
/-! ### range -/
def rangeD (lo : Int) (n : Nat) : List D := (List.range n).map fun i => .int (lo + (i : Nat))
theorem it_range {G : Gx} {H1 : Hp} {β1 : List Pl} {lo : Int} {n : Nat} {p : Pat} : ItOk G (L2.Itr lo n) p (rangeD lo n) [] H1 β1 := by
  refine ⟨fun H β m t rp w => ?_, fun i d H β m t rp w hi => ?_, fun i d x H H' β m t rp w hi hy => ?_⟩
  · show n ≤ (rangeD lo n).length
    simp [rangeD]
  · have := (List.getElem?_eq_some_iff.mp hi).1
    show i < n
    simpa [rangeD] using this
  · obtain ⟨rfl, rfl⟩ := hy
    rw [rangeD, List.getElem?_map] at hi
    obtain ⟨j, hj, rfl⟩ := Option.map_eq_some_iff.mp hi
    have := (List.getElem?_eq_some_iff.mp hj)
    obtain ⟨h1, h2⟩ := this
    simp only [List.getElem_range] at h2
    subst h2
    exact ⟨fun b o e => e, RV.rw p (by simp [RV])⟩
def iRange1 (a : DenA) : DenI := fun fe ρ m => (a fe ρ m).bind fun ds m1 => match ds with
  | [.int j] => if -(2 ^ 62) ≤ j ∧ j < 2 ^ 62 then .ok ⟨rangeD 0 j.toNat, [], none⟩ m1 else .bad
  | _ => .bad
def iRange2 (a : DenA) : DenI := fun fe ρ m => (a fe ρ m).bind fun ds m1 => match ds with
  | [.int i, .int j] => if -(2 ^ 62) ≤ i ∧ i < 2 ^ 62 ∧ -(2 ^ 62) ≤ j ∧ j < 2 ^ 62 then .ok ⟨rangeD i (j - i).toNat, [], none⟩ m1 else .bad
  | _ => .bad
section
variable {G : Gx} {X : Cx} {W : WX} {fe : FE} {a b tg : Expr} {dA : DenA} {p : Pat} {q pos : Pos}
theorem irange1_ok (hg : Gl X "range") (hm : X.mg "range" = none) (ha : PA X [a] (tA G W fe dA)) (hs : starEach [a] X.env = [(false, eval a X.env)]) : PI X tg (.Call (.Name "range" q) [a] [] pos) (tI G W fe p (iRange1 dA)) := PI.imp (pi_range1 hg hm ha hs) fun σ H R h => by
  obtain ⟨β, m, ρ, rp, rs, g⟩ := h
  refine ⟨β, m, ρ, rp, rs, GoodO.mono (GoodO.bind g) fun ds m1 H1 β1 e1 rp1 g1 vs rvs => ?_⟩
  split at g1
  · obtain ⟨v, rfl, r⟩ := rvs.split1
    simp only [RV] at r; subst r
    split at g1
    · rename_i c
      exact ⟨_, rfl, c.1, c.2, g1 β1 H1 Ext.refl rp1 trivial _ it_range⟩
    · exact False.elim g1
  · exact False.elim g1
theorem irange2_ok (hg : Gl X "range") (hm : X.mg "range" = none) (ha : PA X [a, b] (tA G W fe dA)) (hs : starEach [a, b] X.env = [(false, eval a X.env), (false, eval b X.env)]) (hs2 : starEach [b] X.env = [(false, eval b X.env)]) : PI X tg (.Call (.Name "range" q) [a, b] [] pos) (tI G W fe p (iRange2 dA)) := PI.imp (pi_range2 hg hm ha hs hs2) fun σ H R h => by
  obtain ⟨β, m, ρ, rp, rs, g⟩ := h
  refine ⟨β, m, ρ, rp, rs, GoodO.mono (GoodO.bind g) fun ds m1 H1 β1 e1 rp1 g1 vs rvs => ?_⟩
  split at g1
  · obtain ⟨v, w, rfl, r, r'⟩ := rvs.split2
    simp only [RV] at r r'; subst r r'
    split at g1
    · rename_i c
      exact ⟨_, _, rfl, c, g1 β1 H1 Ext.refl rp1 trivial _ it_range⟩
    · exact False.elim g1
  · exact False.elim g1
end
/-! ### for -/
def OutS.turn (r : OutS) (k : Env → Mem → OutS) : OutS := match r with
  | .next ρ m => k ρ m
  | .cont ρ m => k ρ m
  | .brk ρ m => .next ρ m
  | .ret v m => .ret v m
  | .exc c p ρ m => .exc c p ρ m
  | .bad => .bad
@[simp] theorem OutS.turn_next (ρ : Env) (m : Mem) (k : Env → Mem → OutS) : OutS.turn (.next ρ m) k = k ρ m := rfl
@[simp] theorem OutS.turn_cont (ρ : Env) (m : Mem) (k : Env → Mem → OutS) : OutS.turn (.cont ρ m) k = k ρ m := rfl
@[simp] theorem OutS.turn_brk (ρ : Env) (m : Mem) (k : Env → Mem → OutS) : OutS.turn (.brk ρ m) k = .next ρ m := rfl
@[simp] theorem OutS.turn_ret (v : D) (m : Mem) (k : Env → Mem → OutS) : OutS.turn (.ret v m) k = .ret v m := rfl
@[simp] theorem OutS.turn_exc (c : Nat) (p : Option D) (ρ : Env) (m : Mem) (k : Env → Mem → OutS) : OutS.turn (.exc c p ρ m) k = .exc c p ρ m := rfl
@[simp] theorem OutS.turn_bad (k : Env → Mem → OutS) : OutS.turn .bad k = .bad := rfl
def forGo (b : Env → Mem → OutS) (p : Pat) (w : Watch) : List D → Env → Mem → OutS
  | [], ρ, m => if watchOk w m = true then .next ρ m else .bad
  | x :: xs, ρ, m => if watchOk w m = true then (match bindP p x ρ with
    | some ρ1 => (b ρ1 m).turn fun ρ2 m2 => forGo b p w xs ρ2 m2
    | none => .bad) else .bad
def sFor (it : DenI) (p : Pat) (b : DenS) : DenS := fun fe ρ m => .ofE (it fe ρ m) ρ fun I m1 => unlockS I.lk (forGo (b fe) p I.w I.xs ρ (lockM I.lk m1))
theorem GoodS.turn {G : Gx} {W : WX} {D : Ends} {H : Hp} {β : List Pl} {r : OutS} {k : Env → Mem → OutS} (h : GoodS G W D H β (r.turn k)) {N : L2.St → Hp → Prop} (hn : ∀ ρ m' σ' β' H', Ext β H H' β' → Rp G H' β' m' → RS G H' β' σ' ρ → GoodS G W D H' β' (k ρ m') → N σ' H') :
    GoodS G W { D with nx := N, ct := N, bk := D.nx } H β r := by
  cases r with
  | next ρ m => exact fun σ' β' H' x r s => hn ρ m σ' β' H' x r s (GoodS.ext (show GoodS G W D H β (k ρ m) from h) x)
  | cont ρ m => exact fun σ' β' H' x r s => hn ρ m σ' β' H' x r s (GoodS.ext (show GoodS G W D H β (k ρ m) from h) x)
  | brk ρ m => exact h
  | ret v m => exact h
  | exc c p ρ m => exact h
  | bad => exact h
section
variable {G : Gx} {X : Cx} {W : WX} {fe : FE} {tg iter : Expr} {body : List Stmt} {it : DenI} {p : Pat} {db : DenS} {pos : Pos}
theorem sfor_ok (hp : PassesOwn (model X.prog X.w) X.A X.env X.xe) (hc : X.calm = true) (hi : PI X tg iter (tI G W fe p it)) (hg : PG X tg (tP G p)) (hb : PSs X body (tS G W fe db)) (hs : ∀ x, foldedSetIterable iter X.env x = pure x) :
    PS X (.For tg iter body [] pos) (tS G W fe (sFor it p db)) := PS.imp (ps_for hp hc hi hg hb hs) fun D σ H h => by
  obtain ⟨β, m, ρ, rp, rs, g⟩ := h
  refine ⟨β, m, ρ, rp, rs, GoodO.mono (GoodS.ofE rp rs g) fun I m1 H1 β1 x rp1 g1 hcl J ok => ?_⟩
  obtain ⟨rs1, g1⟩ := g1
  have g2 := GoodS.unlock (canLock_at rp1 hcl) g1
  have rp2 := rp1.lock hcl
  have rs2 := rs1.al (al_flag I.lk true β1)
  generalize flagB I.lk true β1 = βl at g2 rp2 rs2 ok
  generalize lockM I.lk m1 = ml at g2 rp2
  refine ⟨fun i k σ H => ∃ β m ρ, Lt G βl H1 β H ∧ Rp G H β m ∧ RS G H β σ ρ ∧ GoodS G W D H β (forGo (db fe) p I.w (I.xs.drop i) ρ m) ∧ i ≤ I.xs.length ∧ k = I.xs.length - i, ⟨_, βl, ml, ρ, Lt.refl, rp2, rs2, g2, Nat.zero_le _, rfl⟩, ?_⟩
  rintro i k σ H ⟨β, m, ρ, t, rp, rs, g, hi, rfl⟩
  rcases Nat.lt_or_ge i I.xs.length with hlt | hge
  · rw [List.drop_eq_getElem_cons hlt] at g
    have hd : I.xs[i]? = some I.xs[i] := List.getElem?_eq_getElem hlt
    generalize I.xs[i] = d at g hd
    simp only [forGo] at g
    split at g
    · rename_i hw
      cases q : bindP p d ρ with
      | none => rw [q] at g; exact g.elim
      | some ρ1 =>
        rw [q] at g
        simp only at g
        refine .inr ⟨ok.go i d H β m t rp hw hd, fun σ' H' => ∃ β' m' ρ', Lt G βl H1 β' H' ∧ Rp G H' β' m' ∧ RS G H' β' σ' ρ' ∧ GoodS G W D H' β' (forGo (db fe) p I.w (I.xs.drop (i + 1)) ρ' m'), ?_, fun x H' hy => ?_⟩
        · rintro σ' H' ⟨β', m', ρ', h1, h2, h3, h4⟩
          exact ⟨_, by omega, β', m', ρ', h1, h2, h3, h4, hlt, rfl⟩
        · obtain ⟨le, rw'⟩ := ok.yld i d x H H' β m t rp hw hd hy
          have xe : Ext β H H' β := Ext.le le
          refine ⟨β, m, ρ, d, ρ1, rp.le le, rs.ext rp xe, rw', q, fun σ' rs' _ => ⟨β, m, ρ1, rp.le le, rs', ?_⟩⟩
          exact GoodS.turn (GoodS.ext g xe) fun ρ2 m2 σ2 β2 H2 x2 rp2 rs2 g2 => ⟨β2, m2, ρ2, (t.ext rp xe).ext (rp.le le) x2, rp2, rs2, g2⟩
    · exact g.elim
  · have e : i = I.xs.length := by omega
    rw [List.drop_of_length_le hge] at g
    simp only [forGo] at g
    split at g
    · rename_i hw
      refine .inl ⟨by rw [e]; exact ok.stop H β m t rp hw, g σ β H Ext.refl rp rs⟩
    · exact g.elim
end
end Mn
set_option Elab.async false
set_option linter.all false
set_option maxRecDepth 100000
set_option maxHeartbeats 1000000
/-! Mn14: zip, while, comprehensions. -/
namespace Mn
open PySem L2 PySem.Spec PyProof.Rows
/-! ### zip -/
def zipD (xs ys : List D) : List D := List.zipWith (fun x y => .tup [x, y]) xs ys
theorem zipD_get {xs ys : List D} {i : Nat} {d : D} (h : (zipD xs ys)[i]? = some d) : ∃ x y, xs[i]? = some x ∧ ys[i]? = some y ∧ d = .tup [x, y] := by
  unfold zipD at h
  rw [List.getElem?_zipWith] at h
  cases e1 : xs[i]? with
  | none => rw [e1] at h; simp at h
  | some x =>
    cases e2 : ys[i]? with
    | none => rw [e1, e2] at h; simp at h
    | some y =>
      rw [e1, e2] at h
      simp at h
      exact ⟨x, y, rfl, rfl, h.symm⟩
def wD (x : D) (xs : List D) : Watch := match x with
  | .loc l => [(l, .lst xs)]
  | _ => []
/-- the two are both lists or both tuples -/
def zipI (m : Mem) (a b : D) : Option (List D × List D × Watch) := match a, b with
  | .tup xs, .tup ys => some (xs, ys, [])
  | a, b => match listM m a, listM m b with
    | some xs, some ys => some (xs, ys, wD a xs ++ wD b ys)
    | _, _ => none
def iZipD (a : DenA) : DenI := fun fe ρ m => (a fe ρ m).bind fun ds m1 => match ds with
  | [x, y] => match zipI m1 x y with
    | some (xs, ys, w) => .ok ⟨zipD xs ys, w, none⟩ m1
    | none => .bad
  | _ => .bad
section
variable {G : Gx} {H1 : Hp} {β1 : List Pl}
/-- a list that is watched, or that nobody writes -/
structure LstOk (G : Gx) (H1 : Hp) (β1 : List Pl) (a : Addr) (xs : List D) (w : Watch) : Prop where
  at_ : ∀ H β m, Lt G β1 H1 β H → Rp G H β m → watchOk w m = true → ∃ zs, SqL G.K H a zs ∧ RVs G H β zs xs
theorem lstOk {m : Mem} {x : D} {xs : List D} {v : V} (rp : Rp G H1 β1 m) (h : listM m x = some xs) (r : RV G H1 β1 v x) : ∃ a, v = .ref a ∧ (∃ zs, SqL G.K H1 a zs) ∧ LstOk G H1 β1 a xs (wD x xs) := by
  cases x with
  | seq ys =>
    simp only [listM, Option.some.injEq] at h
    subst h
    simp only [RV] at r
    obtain ⟨a, zs, rfl, h1, h2⟩ := r
    exact ⟨a, rfl, ⟨zs, h1.sq⟩, ⟨fun H β m t rp w => ⟨zs, (t.tl.2 _ _ h1).sq, RVs.mono t.tl t.bl _ _ h2⟩⟩⟩
  | loc l =>
    simp only [listM] at h
    split at h
    · rename_i ys e
      simp only [Option.some.injEq] at h
      subst h
      obtain ⟨a, zs, rfl, ha, h1, h2⟩ := rp.lst e r
      exact ⟨a, rfl, ⟨zs, SqL.of h1⟩, ⟨fun H β m t rp w => let ⟨zs, g1, g2⟩ := lst_at ha t rp (watch1 w); ⟨zs, SqL.of g1, g2⟩⟩⟩
    · cases h
  | _ => simp [listM] at h
theorem watch_app {w w' : Watch} {m : Mem} (h : watchOk (w ++ w') m = true) : watchOk w m = true ∧ watchOk w' m = true := by
  simpa [watchOk, List.all_append] using h
theorem it_zipL {K : PySem.W.Frag} (hk : K = G.K) {a b : Addr} {xs ys : List D} {w w' : Watch} {ps : List Pat} (h1 : LstOk G H1 β1 a xs w) (h2 : LstOk G H1 β1 b ys w') : ItOk G (Itz K a b) (.tp ps) (zipD xs ys) (w ++ w') H1 β1 := by
  subst hk
  refine ⟨fun H β m t rp wk => ?_, fun i d H β m t rp wk hi => ?_, fun i d x H H' β m t rp wk hi hy => ?_⟩
  · obtain ⟨k1, k2⟩ := watch_app wk
    obtain ⟨zs, a1, a2⟩ := h1.at_ H β m t rp k1
    obtain ⟨us, b1, b2⟩ := h2.at_ H β m t rp k2
    refine ⟨zs, us, a1, b1, ?_⟩
    rw [a2.length, b2.length]
    simp only [zipD, List.length_zipWith]
    omega
  · obtain ⟨k1, k2⟩ := watch_app wk
    obtain ⟨zs, a1, a2⟩ := h1.at_ H β m t rp k1
    obtain ⟨us, b1, b2⟩ := h2.at_ H β m t rp k2
    obtain ⟨x, y, e1, e2, rfl⟩ := zipD_get hi
    obtain ⟨v1, f1, _⟩ := a2.get e1
    obtain ⟨v2, f2, _⟩ := b2.get e2
    exact ⟨zs, us, v1, v2, a1, b1, f1, f2⟩
  · obtain ⟨k1, k2⟩ := watch_app wk
    obtain ⟨zs, a1, a2⟩ := h1.at_ H β m t rp k1
    obtain ⟨us, b1, b2⟩ := h2.at_ H β m t rp k2
    obtain ⟨x', y', e1, e2, rfl⟩ := zipD_get hi
    obtain ⟨v1, f1, r1⟩ := a2.get e1
    obtain ⟨v2, f2, r2⟩ := b2.get e2
    obtain ⟨T, z1, z2, rfl, hT, rfl, g1, g2⟩ := hy
    have q1 := g1 zs a1
    have q2 := g2 us b1
    rw [f1] at q1; cases q1
    rw [f2] at q2; cases q2
    have le := Hle.upd (o := .tup [v1, v2]) hT
    refine ⟨le, fun ds e => ?_⟩
    cases e
    exact ⟨T, _, rfl, SqT.of upd_same, RVs.cons (RV.mono le.tl (BL.refl _) _ _ r1) (RVs.one (RV.mono le.tl (BL.refl _) _ _ r2))⟩
theorem it_zipT {K : PySem.W.Frag} (hk : K = G.K) {a b : Addr} {zs us : List V} {xs ys : List D} {ps : List Pat} (h1 : FzT G.K H1 a zs) (h2 : RVs G H1 β1 zs xs) (h3 : FzT G.K H1 b us) (h4 : RVs G H1 β1 us ys) : ItOk G (RZ.ItzT K a b) (.tp ps) (zipD xs ys) [] H1 β1 := by
  subst hk
  refine ⟨fun H β m t rp wk => ?_, fun i d H β m t rp wk hi => ?_, fun i d x H H' β m t rp wk hi hy => ?_⟩
  · refine ⟨zs, us, (t.tl.1 _ _ h1).sq, (t.tl.1 _ _ h3).sq, ?_⟩
    rw [h2.length, h4.length]
    simp only [zipD, List.length_zipWith]
    omega
  · obtain ⟨x, y, e1, e2, rfl⟩ := zipD_get hi
    obtain ⟨v1, f1, _⟩ := h2.get e1
    obtain ⟨v2, f2, _⟩ := h4.get e2
    exact ⟨zs, us, v1, v2, (t.tl.1 _ _ h1).sq, (t.tl.1 _ _ h3).sq, f1, f2⟩
  · obtain ⟨x', y', e1, e2, rfl⟩ := zipD_get hi
    obtain ⟨v1, f1, r1⟩ := h2.get e1
    obtain ⟨v2, f2, r2⟩ := h4.get e2
    obtain ⟨T, z1, z2, rfl, hT, rfl, g1, g2⟩ := hy
    have q1 := g1 zs (t.tl.1 _ _ h1).sq
    have q2 := g2 us (t.tl.1 _ _ h3).sq
    rw [f1] at q1; cases q1
    rw [f2] at q2; cases q2
    have le := Hle.upd (o := .tup [v1, v2]) hT
    refine ⟨le, fun ds e => ?_⟩
    cases e
    have r1' := RV.mono t.tl t.bl _ _ r1
    have r2' := RV.mono t.tl t.bl _ _ r2
    exact ⟨T, _, rfl, SqT.of upd_same, RVs.cons (RV.mono le.tl (BL.refl _) _ _ r1') (RVs.one (RV.mono le.tl (BL.refl _) _ _ r2'))⟩
end
section
variable {G : Gx} {X : Cx} {W : WX} {fe : FE} {e e2 : Expr} {elts : List Expr} {kk : Nat} {dA : DenA} {ps : List Pat} {q pos tpos : Pos}
theorem izip_ok (on : On G X) (hg : Gl X "zip") (hm : X.mg "zip" = none) (ha : PA X [e, e2] (tA G W fe dA)) (hs : starEach [e, e2] X.env = (false, eval e X.env) :: starEach [e2] X.env) (hpl : (backTo pos (starEach [e2] X.env)).any (·.1) = false) :
    PI X (.Tuple elts kk tpos) (.Call (.Name "zip" q) [e, e2] [] pos) (tI G W fe (.tp ps) (iZipD dA)) := PI.imp (RZ.pi_zipA hg hm ha hs hpl) fun σ H R h => by
  obtain ⟨β, m, ρ, rp, rs, g⟩ := h
  refine ⟨β, m, ρ, rp, rs, GoodO.mono (GoodO.bind g) fun ds m1 H1 β1 e1 rp1 g1 vs rvs => ?_⟩
  split at g1
  · rename_i x y
    obtain ⟨v1, v2, rfl, r1, r2⟩ := rvs.split2
    cases z : zipI m1 x y with
    | none => rw [z] at g1; exact False.elim g1
    | some t =>
      obtain ⟨xs, ys, w⟩ := t
      rw [z] at g1
      unfold zipI at z
      split at z
      · simp only [Option.some.injEq, Prod.mk.injEq] at z
        obtain ⟨rfl, rfl, rfl⟩ := z
        simp only [RV] at r1 r2
        obtain ⟨a, zs, rfl, h1, h2⟩ := r1
        obtain ⟨b, us, rfl, h3, h4⟩ := r2
        exact ⟨a, b, zs, us, rfl, .inr ⟨on.K ▸ h1.sq, on.K ▸ h3.sq, g1 β1 H1 Ext.refl rp1 trivial _ (it_zipT on.K h1 h2 h3 h4)⟩⟩
      · split at z
        · rename_i xs' ys' z1 z2
          simp only [Option.some.injEq, Prod.mk.injEq] at z
          obtain ⟨rfl, rfl, rfl⟩ := z
          obtain ⟨a, rfl, ⟨zs, h1⟩, h2⟩ := lstOk rp1 z1 r1
          obtain ⟨b, rfl, ⟨us, h3⟩, h4⟩ := lstOk rp1 z2 r2
          exact ⟨a, b, zs, us, rfl, .inl ⟨on.K ▸ h1, on.K ▸ h3, g1 β1 H1 Ext.refl rp1 trivial _ (it_zipL on.K h2 h4)⟩⟩
        · cases z
  · exact False.elim g1
end
/-! ### while -/
def whileGo (t : Env → Mem → Out Bool) (b : Env → Mem → OutS) : Nat → Env → Mem → OutS
  | 0, _, _ => .bad
  | n + 1, ρ, m => .ofE (t ρ m) ρ fun c m1 => if c = true then (b ρ m1).turn fun ρ2 m2 => whileGo t b n ρ2 m2 else .next ρ m1
open Classical in
noncomputable def sWhile (t : DenT) (b : DenS) : DenS := fun fe ρ m => if h : ∃ n, whileGo (t fe) (b fe) n ρ m ≠ .bad then whileGo (t fe) (b fe) h.choose ρ m else .bad
theorem whileGo_mono {t : Env → Mem → Out Bool} {b : Env → Mem → OutS} : ∀ (n k : Nat) (ρ : Env) (m : Mem), whileGo t b n ρ m ≠ .bad → n ≤ k → whileGo t b k ρ m = whileGo t b n ρ m
  | 0, _, _, _, h, _ => absurd rfl h
  | n + 1, 0, _, _, _, h => absurd h (by omega)
  | n + 1, k + 1, ρ, m, h, hk => by
    simp only [whileGo] at h ⊢
    cases e : t ρ m with
    | ok c m1 =>
      rw [e] at h
      simp only [OutS.ofE_ok] at h ⊢
      cases c with
      | true =>
        simp only [if_true] at h ⊢
        cases e2 : b ρ m1 with
        | next ρ2 m2 => rw [e2] at h; exact whileGo_mono n k ρ2 m2 h (by omega)
        | cont ρ2 m2 => rw [e2] at h; exact whileGo_mono n k ρ2 m2 h (by omega)
        | _ => rfl
      | false => rfl
    | exc c p m1 => rfl
    | bad => rfl
/-- what some number of turns tells -/
theorem sWhile_is {t : DenT} {b : DenS} {fe : FE} {ρ : Env} {m : Mem} {r : OutS} (n : Nat) (h : whileGo (t fe) (b fe) n ρ m = r) (hr : r ≠ .bad) : sWhile t b fe ρ m = r := by
  have hx : ∃ n, whileGo (t fe) (b fe) n ρ m ≠ .bad := ⟨n, by rw [h]; exact hr⟩
  unfold sWhile
  rw [dif_pos hx]
  rcases Nat.le_total n hx.choose with c | c
  · rw [whileGo_mono n hx.choose ρ m (by rw [h]; exact hr) c, h]
  · rw [← whileGo_mono hx.choose n ρ m hx.choose_spec c, h]
section
variable {G : Gx} {X : Cx} {W : WX} {fe : FE} {c : Expr} {body : List Stmt} {dt : DenT} {db : DenS} {pos : Pos}
theorem swhile_ok (hp : PassesOwn (model X.prog X.w) X.A X.env X.xe) (hc : PT X c (tT G W fe dt)) (hb : PSs X body (tS G W fe db)) : PS X (.While c body [] pos) (tS G W fe (sWhile dt db)) := PS.imp (ps_while hp hc hb) fun D σ H h => by
  obtain ⟨β, m, ρ, rp, rs, g⟩ := h
  unfold sWhile at g
  split at g
  · rename_i hx
    generalize hx.choose = n at g
    refine ⟨fun n σ H => ∃ β m ρ, Rp G H β m ∧ RS G H β σ ρ ∧ GoodS G W D H β (whileGo (dt fe) (db fe) n ρ m), ⟨n, β, m, ρ, rp, rs, g⟩, ?_⟩
    rintro n σ H ⟨β, m, ρ, rp, rs, g⟩
    cases n with
    | zero => exact g.elim
    | succ n =>
      simp only [whileGo] at g
      refine ⟨β, m, ρ, rp, rs, GoodO.mono (GoodS.ofE rp rs g) fun c m1 H1 β1 x rp1 g1 => ?_⟩
      obtain ⟨rs1, g1⟩ := g1
      cases c with
      | true =>
        simp only [if_true] at g1 ⊢
        refine ⟨fun σ' H' => ∃ β' m' ρ', Rp G H' β' m' ∧ RS G H' β' σ' ρ' ∧ GoodS G W D H' β' (whileGo (dt fe) (db fe) n ρ' m'), fun σ' H' h => ⟨n, Nat.lt_succ_self n, h⟩, β1, m1, ρ, rp1, rs1, ?_⟩
        exact GoodS.turn g1 fun ρ2 m2 σ2 β2 H2 x2 rp2 rs2 g2 => ⟨β2, m2, ρ2, rp2, rs2, g2⟩
      | false => exact g1 σ β1 H1 Ext.refl rp1 rs1
  · exact g.elim
end
/-! ### comprehensions -/
def noX {α : Type} : Out α → Out α
  | .exc _ _ _ => .bad
  | r => r
@[simp] theorem noX_ok {α : Type} (a : α) (m : Mem) : noX (.ok a m) = .ok a m := rfl
def wipeE (ρ : Env) : List Nat → Env
  | [] => ρ
  | v :: vs => (wipeE ρ vs).set v none
theorem RS.wipe {G : Gx} {H : Hp} {β : List Pl} {σ : L2.St} {ρ : Env} (r : RS G H β σ ρ) : ∀ vs, RS G H β (L2.wipe σ vs) (wipeE ρ vs)
  | [] => r
  | v :: vs => (RS.wipe r vs).unset v none
def lcGo (t : Env → Mem → Out Bool) (e : Env → Mem → Out D) (p : Pat) (w : Watch) (ρ : Env) : List D → List D → Mem → Out (List D)
  | [], acc, m => if watchOk w m = true then .ok acc m else .bad
  | x :: xs, acc, m => if watchOk w m = true then (match bindP p x ρ with
    | some ρ1 => (noX (t ρ1 m)).bind fun b m1 => if b = true then (noX (e ρ1 m1)).bind fun y m2 => if acc.length < sizeLine then lcGo t e p w ρ xs (acc ++ [y]) m2 else .bad else lcGo t e p w ρ xs acc m1
    | none => .bad) else .bad
def tYesD : DenT := fun _ _ m => .ok true m
def unlockL (lk : Option Nat) : Out (List D) → Out D
  | .ok acc m => .ok (.loc m.length) (unlockM lk m ++ [.lst acc])
  | .exc c p m => .exc c p (unlockM lk m)
  | .bad => .bad
/-- [e for p in it if t] -/
def xLc (it : DenI) (p : Pat) (t : DenT) (e : Den) (own : List Nat) : Den := fun fe ρ m => (it fe ρ m).bind fun I m1 => unlockL I.lk (lcGo (t fe) (e fe) p I.w (wipeE ρ own) I.xs [] (lockM I.lk m1))
section
variable {G : Gx} {H : Hp} {β : List Pl} {m : Mem}
/-- a list that stands by itself -/
theorem Rp.other {A : Addr} {ys zs : List V} (r : Rp G H β m) (hd : ∀ f, (A, f) ∉ β) (h : H A = some (.lst ys)) : Rp G (upd H A (.lst zs)) β m := by
  have t : TL G.K H (upd H A (.lst zs)) := by
    have ne : ∀ b o, H b = some o → o ≠ .lst ys → b ≠ A := fun b o e n z => n (by rw [z, h] at e; exact (Option.some.inj e).symm)
    refine ⟨fun b xs x => ?_, fun b xs x => ?_⟩
    · rcases x with ⟨o, x, hd⟩ | x
      · exact .inl ⟨o, by rw [upd_ne (ne _ _ x (by intro z; cases z))]; exact x, hd⟩
      · exact .inr x
    · rcases x with ⟨o, x⟩ | x
      · exact .inl ⟨o, by rw [upd_ne (ne _ _ x (by intro z; cases z))]; exact x⟩
      · exact .inr x
  refine ⟨r.len, r.nd, fun l o a f e1 e2 => ⟨(r.at_ l o a f e1 e2).1, (r.at_ l o a f e1 e2).2.mono t (BL.refl _) (fun u e => ?_) fun dx q => ?_⟩⟩
  · rw [upd_ne (fun z => hd f (by rw [← z]; exact List.mem_of_getElem? e2))]; exact e
  · rw [upd_ne (fun z => by rw [z, h] at q; cases q)]; exact q
theorem tl_other {A : Addr} {ys zs : List V} (h : H A = some (.lst ys)) : TL G.K H (upd H A (.lst zs)) := by
  have ne : ∀ b o, H b = some o → o ≠ .lst ys → b ≠ A := fun b o e n z => n (by rw [z, h] at e; exact (Option.some.inj e).symm)
  refine ⟨fun b xs x => ?_, fun b xs x => ?_⟩
  · rcases x with ⟨o, x, hd⟩ | x
    · exact .inl ⟨o, by rw [upd_ne (ne _ _ x (by intro z; cases z))]; exact x, hd⟩
    · exact .inr x
  · rcases x with ⟨o, x⟩ | x
    · exact .inl ⟨o, by rw [upd_ne (ne _ _ x (by intro z; cases z))]; exact x⟩
    · exact .inr x
/-- the list becomes a place -/
theorem Rp.join {A : Addr} {ys : List V} {ds : List Mn.D} (r : Rp G H β m) (hd : ∀ f, (A, f) ∉ β) (h : H A = some (.lst ys)) (q : RVs G H β ys ds) : Rp G H (β ++ [(A, false)]) (m ++ [.lst ds]) where
  len := by simp [r.len]
  nd := by
    rw [List.map_append, List.nodup_append]
    refine ⟨r.nd, by simp, fun a ha b hb => ?_⟩
    simp only [List.map_cons, List.map_nil, List.mem_singleton] at hb
    subst hb
    obtain ⟨q, hq, rfl⟩ := List.mem_map.mp ha
    intro e
    obtain ⟨b, f⟩ := q
    have e' : b = _ := e
    subst e'
    exact hd f hq
  at_ := fun l o' a f e1 e2 => by
    by_cases hl : l < m.length
    · rw [List.getElem?_append_left hl] at e1
      rw [List.getElem?_append_left (by rw [r.len]; exact hl)] at e2
      exact ⟨(r.at_ l o' a f e1 e2).1, (r.at_ l o' a f e1 e2).2.mono (TL.refl _ _) ⟨_, rfl⟩ (fun _ e => e) fun _ e => e⟩
    · have hl2 : l = m.length := by
        have := (List.getElem?_eq_some_iff.mp e1).1
        simp only [List.length_append, List.length_singleton] at this
        omega
      subst hl2
      rw [List.getElem?_append_right (Nat.le_refl _)] at e1
      rw [List.getElem?_append_right (by rw [r.len]; exact Nat.le_refl _)] at e2
      simp only [Nat.sub_self, List.getElem?_cons_zero, Option.some.injEq, r.len] at e1 e2
      subst e1
      cases e2
      exact ⟨rfl, ys, h, RVs.mono (TL.refl _ _) ⟨_, rfl⟩ _ _ q⟩
end
theorem wipe_off {σ σ2 : L2.St} {is vs : List Nat} (h : Off is (L2.wipe σ vs) σ2) (hs : ∀ i ∈ is, i ∈ vs) : L2.wipe σ2 vs = L2.wipe σ vs := by
  apply List.ext_getElem?
  intro i
  by_cases hi : i ∈ vs
  · have aux : ∀ (τ : L2.St) (ws : List Nat), i ∈ ws → i < τ.length → (L2.wipe τ ws)[i]? = some none := by
      intro τ ws
      induction ws with
      | nil => intro h; simp at h
      | cons w ws ih =>
        intro h hl
        unfold L2.wipe
        by_cases hw : w = i
        · subst hw; exact List.getElem?_set_self (by rw [wipe_length]; exact hl)
        · rw [List.getElem?_set_ne hw]
          rcases List.mem_cons.mp h with e | h
          · exact absurd e.symm hw
          · exact ih h hl
    by_cases hl : i < σ.length
    · rw [aux σ2 vs hi (by rw [h.1, wipe_length]; exact hl), aux σ vs hi hl]
    · rw [List.getElem?_eq_none (by rw [wipe_length, h.1, wipe_length]; omega), List.getElem?_eq_none (by rw [wipe_length]; omega)]
  · rw [wipe_out hi, wipe_out hi, h.2 i (fun z => hi (hs i z)), wipe_out hi]
section
variable {G : Gx} {X : Cx} {W : WX} {fe : FE} {elt tg iter : Expr} {ifs : List Expr} {scope : Scope} {own : List (Str × Nat)} {pos spos : Pos} {it : DenI} {p : Pat} {dt : DenT} {de : Den}
abbrev noW : WX := fun _ _ _ _ => False
theorem PTs.imp {X : Cx} {e : List Expr} {t t' : TT} (h : PTs X e t) (f : ∀ σ H Q, t' σ H Q → t σ H Q) : PTs X e t' := ⟨fun pins s σ H Q I x => h.run pins s σ H Q I (f σ H Q x)⟩
theorem tyes_ok {X : Cx} : PTs X [] (tT G W fe tYesD) := PTs.imp pts_nil fun σ H Q ⟨β, m, ρ, rp, rs, g⟩ => g β H Ext.refl rp
theorem tone_ok {X : Cx} {c : Expr} {dt : DenT} (h : PT X c (tT G W fe dt)) : PTs X [c] (tT G W fe dt) := pts_one h
theorem Rp.noflag {H : Hp} {β : List Pl} {m : Mem} {A : Addr} {vs : List V} (r : Rp G H β m) (h : H A = some (.lst vs)) : (A, true) ∉ β := by
  intro hb
  obtain ⟨l, hl⟩ := List.mem_iff_getElem?.mp hb
  have hlt := (List.getElem?_eq_some_iff.mp hl).1
  rw [r.len] at hlt
  obtain ⟨hf, ro⟩ := r.at_ l _ A true (List.getElem?_eq_getElem hlt) hl
  generalize m[l] = o at hf ro
  cases o with
  | lst ds => cases hf
  | dict kvs lk => obtain ⟨_, _, es, ep, h1, _⟩ := ro; rw [h] at h1; cases h1
  | inst c fs => cases hf
theorem nd_next {H H' : Hp} {β β' : List Pl} {A : Addr} {o : HO} (nd : ∀ f, (A, f) ∉ β) (hA : H A = some o) (x : Ext β H H' β') : ∀ f, (A, f) ∉ β' := by
  intro f hf
  rcases x.nw A f hf with z | z | z
  · exact nd false z
  · exact nd f z
  · rw [hA] at z; cases z
theorem GoodO.noX {α : Type} {W W' : XK} {H : Hp} {β : List Pl} {K : α → Mem → Hp → List Pl → Prop} {r : Out α} (h : GoodO G W H β K (noX r)) : GoodO G W' H β K r := by
  cases r with
  | ok a m => exact h
  | exc c p m => exact h.elim
  | bad => exact h
theorem lc_red (on : On G X) (hs : ∀ i ∈ p.slots, i ∈ own.map (·.2)) {σ : L2.St} {H : Hp} {Q : VK} (h : tE G W fe (xLc it p dt de (own.map (·.2))) σ H Q) : tLc (tI G W fe p it) (tP G p) (tT G noW fe dt) (tE G noW fe de) (own.map (·.2)) σ H Q := by
  obtain ⟨β, m, ρ, rp, rs, g⟩ := h
  refine ⟨β, m, ρ, rp, rs, GoodO.mono (GoodO.bind (GoodE.iff.mp g)) fun I m1 H1 β1 x rp1 g1 hcl J ok A hA => ?_⟩
  have rs1 := rs.ext rp x
  have rp2 := rp1.lock hcl
  have rs2 := rs1.al (al_flag I.lk true β1)
  have hcat := canLock_at rp1 hcl
  have hlen : ∀ l, I.lk = some l → l < β1.length := fun l e => by obtain ⟨a, ha⟩ := hcat l e; exact (List.getElem?_eq_some_iff.mp ha).1
  have hfin : ∀ {β2 : List Pl} {m2 : Mem} {H2 : Hp} {acc : List D} {vs : List V}, Ext (flagB I.lk true β1) H1 H2 β2 → (∀ f, (A, f) ∉ β2) → Rp G H2 β2 m2 → H2 A = some (.lst vs) → RVs G H2 β2 vs acc → lcGo (dt fe) (de fe) p I.w (wipeE ρ (own.map (·.2))) I.xs [] (lockM I.lk m1) = .ok acc m2 → Q (.ref A) H2 := by
    intro β2 m2 H2 acc vs x2 nd2 rp3 hA2 rv e
    rw [e] at g1
    have xo := Ext.unlock hcat x2
    have al := al_flag I.lk false β2
    have ru := rp3.unlock hlen x2.bl
    have nd' : ∀ f, (A, f) ∉ flagB I.lk false β2 := fun f hf => by
      have hm : A ∈ (flagB I.lk false β2).map (·.1) := List.mem_map.mpr ⟨_, hf, rfl⟩
      rw [flag_map] at hm
      obtain ⟨q, hq, e⟩ := List.mem_map.mp hm
      obtain ⟨b, f'⟩ := q
      cases (show b = A from e)
      exact nd2 f' hq
    have rj := ru.join nd' hA2 (RVs.al al _ _ rv)
    refine g1 (flagB I.lk false β2 ++ [(A, false)]) H2 ⟨xo.bl.trans ⟨_, rfl⟩, xo.fr, fun b f hb => ?_⟩ rj (.ref A) ?_
    · rcases List.mem_append.mp hb with hb | hb
      · exact xo.nw b f hb
      · simp only [List.mem_singleton] at hb
        cases hb; exact .inr (.inr hA)
    · simp only [RV]
      refine ⟨A, false, rfl, ?_⟩
      rw [show m2.length = (flagB I.lk false β2).length from ?_]
      · simp
      · have := congrArg List.length (flag_map I.lk false β2)
        simp only [List.length_map] at this
        rw [this, rp3.len]
  have hbad : lcGo (dt fe) (de fe) p I.w (wipeE ρ (own.map (·.2))) I.xs [] (lockM I.lk m1) ≠ .bad := fun e => by rw [e] at g1; exact g1
  clear g1 g
  generalize flagB I.lk true β1 = βl at hfin rp2 rs2 ok
  generalize lockM I.lk m1 = ml at hfin rp2 hbad
  generalize e0 : lcGo (dt fe) (de fe) p I.w (wipeE ρ (own.map (·.2))) I.xs [] ml = r0 at hfin hbad
  have le0 : Hle H1 (upd H1 A (.lst [])) := Hle.upd hA
  have nd0 : ∀ f, (A, f) ∉ βl := fun f => rp2.fresh hA f
  have xnew : ∀ {β4 : List Pl} {H4 : Hp} {zs : List V}, Ext βl H1 H4 β4 → Ext βl H1 (upd H4 A (.lst zs)) β4 := fun {β4 H4 zs} x => ⟨x.bl, fun b o e n => by
    rw [upd_ne (ne_of_none e hA)]; exact x.fr b o e n, x.nw⟩
  refine ⟨fun i k H => ∃ β m acc vs, Ext βl H1 H β ∧ (∀ f, (A, f) ∉ β) ∧ Lt G βl H1 β H ∧ Rp G H β m ∧ H A = some (.lst vs) ∧ RVs G H β vs acc ∧ lcGo (dt fe) (de fe) p I.w (wipeE ρ (own.map (·.2))) (I.xs.drop i) acc m = r0 ∧ i ≤ I.xs.length ∧ k = I.xs.length - i,
    ⟨_, βl, ml, [], [], Ext.le le0, nd0, Lt.refl.ext rp2 (Ext.le le0), rp2.le le0, upd_same, RVs.nil, e0, Nat.zero_le _, rfl⟩, ?_⟩
  rintro i k H ⟨β, m, acc, vs, xe, nd, t, rp, hA', rv, e, hi, rfl⟩
  rcases Nat.lt_or_ge i I.xs.length with hlt | hge
  · rw [List.drop_eq_getElem_cons hlt] at e
    have hd : I.xs[i]? = some I.xs[i] := List.getElem?_eq_getElem hlt
    generalize I.xs[i] = d at e hd
    simp only [lcGo] at e
    by_cases hw : watchOk I.w m = true
    · rw [if_pos hw] at e
      cases q : bindP p d (wipeE ρ (own.map (·.2))) with
      | none => rw [q] at e; exact absurd e.symm hbad
      | some ρ1 =>
        rw [q] at e
        simp only at e
        refine .inr ⟨ok.go i d H β m t rp hw hd, fun H' => ∃ β m acc vs, Ext βl H1 H' β ∧ (∀ f, (A, f) ∉ β) ∧ Lt G βl H1 β H' ∧ Rp G H' β m ∧ H' A = some (.lst vs) ∧ RVs G H' β vs acc ∧ lcGo (dt fe) (de fe) p I.w (wipeE ρ (own.map (·.2))) (I.xs.drop (i + 1)) acc m = r0, ?_, fun x H' hy => ?_⟩
        · rintro H' ⟨β', m', acc', vs', h1, h2, h3, h4, h5, h6, h7⟩
          exact ⟨_, by omega, β', m', acc', vs', h1, h2, h3, h4, h5, h6, h7, hlt, rfl⟩
        · obtain ⟨le, rw'⟩ := ok.yld i d x H H' β m t rp hw hd hy
          refine ⟨β, m, wipeE ρ (own.map (·.2)), d, ρ1, rp.le le, (rs2.wipe _).mono (t.tl.trans le.tl) t.bl, rw', q, fun σ' rs' off => ⟨wipe_off off hs, β, m, ρ1, rp.le le, rs', ?_⟩⟩
          cases ed : dt fe ρ1 m with
          | exc c pp m3 => rw [ed] at e; exact absurd e.symm hbad
          | bad => rw [ed] at e; exact absurd e.symm hbad
          | ok b m3 =>
            rw [ed] at e
            simp only [noX_ok, Out.bind_ok] at e
            intro β3 H3 x3 rp3
            have xe3 : Ext βl H1 H3 β3 := xe.trans ((Ext.le le).trans x3)
            have hA3 : H3 A = some (.lst vs) := x3.fr _ _ (le _ _ hA') (nd false)
            have nd3 : ∀ f, (A, f) ∉ β3 := nd_next nd (le _ _ hA') x3
            have t3 : Lt G βl H1 β3 H3 := (t.ext rp (Ext.le le)).ext (rp.le le) x3
            have rv3 : RVs G H3 β3 vs acc := RVs.mono (le.tl.trans (x3.tl (rp.le le))) x3.bl _ _ rv
            cases b with
            | false =>
              simp only [Bool.false_eq_true, if_false] at e ⊢
              exact ⟨β3, m3, acc, vs, xe3, nd3, t3, rp3, hA3, rv3, e⟩
            | true =>
              simp only [if_true] at e ⊢
              refine ⟨β3, m3, ρ1, rp3, rs'.ext (rp.le le) x3, ?_⟩
              cases ee : de fe ρ1 m3 with
              | exc c pp m4 => rw [ee] at e; exact absurd e.symm hbad
              | bad => rw [ee] at e; exact absurd e.symm hbad
              | ok y m4 =>
                rw [ee] at e
                simp only [noX_ok, Out.bind_ok] at e
                intro u β4 H4 x4 rp4 ru
                by_cases hl : acc.length < sizeLine
                · rw [if_pos hl] at e
                  have hA4 : H4 A = some (.lst vs) := x4.fr _ _ hA3 (nd3 false)
                  have nd4 : ∀ f, (A, f) ∉ β4 := nd_next nd3 hA3 x4
                  have t4 := t3.ext rp3 x4
                  refine ⟨vs, hA4, by rw [rv.length]; exact hl, β4, m4, acc ++ [y], vs ++ [u], xnew (xe3.trans x4), nd4, ⟨t4.tl.trans (tl_other hA4), t4.bl, fun b o hb e => ?_⟩, rp4.other nd4 hA4, upd_same, ?_, e⟩
                  · rw [upd_ne (ne_of_none e hA)]; exact t4.lk b o hb e
                  · exact RVs.mono (tl_other hA4) (BL.refl _) _ _ ((RVs.mono (x4.tl rp3) x4.bl _ _ rv3).append (RVs.one ru))
                · rw [if_neg hl] at e; exact absurd e.symm hbad
    · rw [if_neg hw] at e; exact absurd e.symm hbad
  · have ei : i = I.xs.length := by omega
    rw [List.drop_of_length_le hge] at e
    simp only [lcGo] at e
    by_cases hw : watchOk I.w m = true
    · rw [if_pos hw] at e
      exact .inl ⟨by rw [ei]; exact ok.stop H β m t rp hw, hfin xe nd rp hA' rv e.symm⟩
    · rw [if_neg hw] at e; exact absurd e.symm hbad
theorem xlc_ok (on : On G X) (hc : X.calm = true) (hN : X.N.Nodup) (hi : PI X tg iter (tI G W fe p it)) (ok : BlkOk X.N X.env.scope scope own)
    (hg : ∀ (s : Shared) (H : Hp) (C : Addr) (cl : List (Str × Addr)) (fp : List Addr), PG (X.blk s H scope (compEnvC scope cl C X.env) fp) tg (tP G p)) (ht : ∀ (s : Shared) (H : Hp) (C : Addr) (cl : List (Str × Addr)) (fp : List Addr), PTs (X.blk s H scope (compEnvC scope cl C X.env) fp) ifs (tT G noW fe dt))
    (he : ∀ (s : Shared) (H : Hp) (C : Addr) (cl : List (Str × Addr)) (fp : List Addr), PE (X.blk s H scope (compEnvC scope cl C X.env) fp) elt (tE G noW fe de)) (hs : ∀ x, foldedSetIterable iter X.env x = pure x) (hsl : ∀ i ∈ p.slots, i ∈ own.map (·.2)) :
    PE X (.ListComp elt [⟨tg, iter, ifs, 0⟩] scope pos) (tE G W fe (xLc it p dt de (own.map (·.2)))) := PE.imp (pe_lc hc hN hi ok hg ht he hs) fun σ H Q h => lc_red on hsl h
/-- name = [..] on one line -/
theorem ssetLc_ok {i : Nat} {y : Str} {py : Pos} (on : On G X) (hc : X.calm = true) (hN : X.N.Nodup) (hy : X.N[i]? = some y) (hyl : X.env.scope.names.lookup y = some .local)
    (hsw : swapsWith (.ListComp elt [⟨tg, iter, ifs, 0⟩] scope pos) (some (.Name y py)) spos.line X.env = pure true) (hi : PI X tg iter (tI G W fe p it)) (ok : BlkOk X.N X.env.scope scope own)
    (hg : ∀ (s : Shared) (H : Hp) (C : Addr) (cl : List (Str × Addr)) (fp : List Addr), PG (X.blk s H scope (compEnvC scope cl C X.env) fp) tg (tP G p)) (ht : ∀ (s : Shared) (H : Hp) (C : Addr) (cl : List (Str × Addr)) (fp : List Addr), PTs (X.blk s H scope (compEnvC scope cl C X.env) fp) ifs (tT G noW fe dt))
    (he : ∀ (s : Shared) (H : Hp) (C : Addr) (cl : List (Str × Addr)) (fp : List Addr), PE (X.blk s H scope (compEnvC scope cl C X.env) fp) elt (tE G noW fe de)) (hs : ∀ x, foldedSetIterable iter X.env x = pure x) (hsl : ∀ i ∈ p.slots, i ∈ own.map (·.2)) :
    PS X (.Assign [.Name y py] (.ListComp elt [⟨tg, iter, ifs, 0⟩] scope pos) spos) (tS G W fe (sSet i (xLc it p dt de (own.map (·.2))))) := PS.imp (ps_setLc hc hN hy hyl hsw hi ok hg ht he hs) fun D σ H h => by
  obtain ⟨β, m, ρ, rp, rs, g⟩ := h
  refine lc_red on hsl ⟨β, m, ρ, rp, rs, GoodS.ofEE rp rs g fun v m1 H1 β1 u x rp1 rs1 ru g1 => g1 _ β1 H1 Ext.refl rp1 (rs1.set i ru)⟩
end
end Mn
set_option Elab.async false
set_option linter.all false
set_option maxRecDepth 100000
set_option maxHeartbeats 1000000
/-! Mn15: displays of dicts, isinstance. -/
namespace Mn
open PySem L2 PySem.Spec PyProof.Rows
section
variable {G : Gx} {X : Cx} {pins : List (Addr × Obj)} {σ : L2.St} {H : Hp} {s : Shared} {β : List Pl} {a : Addr} {es : Array DictEntry} {ep : Nat} {kvs : List (D × D)} {k : D} {y : V} {u : Value} {A : Around} {E : Value → Shared → Prop}
theorem dset_ok {m : Mem} {l : Nat} {d : D} {dv : V} {du : Value} {Q : Unit → Shared → Prop} (on : On G X) (hu : A.units + 64 < cLine) (I : L2.Inv X pins σ H s) (rp : Rp G H β m) (ha : β[l]? = some (a, false)) (hs : (a == sysModules) = false) (hl : kvs.length ≤ sizeLine) (hz : (dPut kvs k d).length ≤ sizeLine) (h : H a = some (dictO a es ep)) (e : EntM G H β es kvs ∨ EntN G H β es kvs) (hk : kindOk kvs k = true) (ry : RV G H β y k) (ru : RelV y u)
    (rd : RV G H β dv d) (rdu : RelV dv du) (hq : ∀ es' ep' s', L2.Inv X pins σ (upd H a (dictO a es' ep')) s' → Rp G (upd H a (dictO a es' ep')) β (m.set l (.dict (dPut kvs k d) false)) → Q () s') : wpAny (model X.prog X.w) A (dictSet a u du) Q E s := by
  rcases kind_cases hk with ⟨k', e1, e2⟩ | ⟨k', e1, e2, ⟨xs, e3⟩, e4⟩
  · obtain ⟨ks, dd, pm⟩ := dict_M on I h e e2
    have yk := keyM_kV e1 ry
    subst yk
    refine wpAny_dictSet_pairs (hsz := by rw [Paired.length pm]; exact hl) (kV_is ru) dd (fun h' dd' hsb => ?_)
    obtain ⟨es', ep', I', rp'⟩ := stored_M (t' := s.toks + 1) on I rp ha hs h hz dd' hsb (pm.put e1 ⟨dv, rdu, rd⟩)
    exact hq es' ep' _ I' rp'
  · obtain ⟨ks, dd, pn⟩ := dict_N on I h e e4
    subst e3
    have ry' := ry
    simp only [RV] at ry'
    obtain ⟨b, ys, rfl, _, _⟩ := ry'
    cases ru
    refine wpAny_dictSet_heap (knd := nestedKind X.prog X.w) (k := k') (hsz := by rw [Paired.length pn]; exact hl) (nroom0 hu) ⟨nested_is on I _ _ _ _ e1 ry rfl, e2⟩ dd fun h' dd' hsb => ?_
    obtain ⟨es', ep', I', rp'⟩ := stored_N (t' := s.toks + (nestedKind X.prog X.w).draws k') on I rp ha hs h hz dd' hsb (pn.put e1 e2 ry ⟨dv, rdu, rd⟩)
    exact hq es' ep' _ I' rp'
end
/-- pairs stored one after the other -/
def dictP : List (D × D) → List (D × D) → Option (List (D × D))
  | acc, [] => some acc
  | acc, (k, v) :: r => if kindOk acc k = true ∧ (dPut acc k v).length ≤ sizeLine then dictP (dPut acc k v) r else none
def kvD : List (Den × Den) → FE → Env → Mem → Out (List (D × D))
  | [], _, _, m => .ok [] m
  | (a, b) :: r, fe, ρ, m => (a fe ρ m).bind fun x m1 => (b fe ρ m1).bind fun y m2 => (kvD r fe ρ m2).bind fun ps m3 => .ok ((x, y) :: ps) m3
def xDict (l : List (Den × Den)) : Den := fun fe ρ m => (kvD l fe ρ m).bind fun ps m1 => match dictP [] ps with
  | some kvs => .ok (.loc m1.length) (m1 ++ [.dict kvs false])
  | none => .bad
def xEmpty : Den := fun _ _ m => .ok (.loc m.length) (m ++ [.dict [] false])
section
variable {G : Gx} {X : Cx} {W : WX} {fe : FE} {pos : Pos} {keys : List (Option Expr)} {values : List Expr} {l : List (Den × Den)}
theorem empty_ent {H : Hp} {β : List Pl} : EntM G H β #[] [] := ⟨[], fun e he => by simp at he, .nil, by simp, .nil⟩
/-- a dict that stands by itself becomes a place -/
theorem Rp.joinD {H : Hp} {β : List Pl} {m : Mem} {a : Addr} (r : Rp G H β m) (hd : ∀ f, (a, f) ∉ β) (hs : (a == sysModules) = false) (h : H a = some (dictO a #[] 0)) : Rp G H (β ++ [(a, false)]) (m ++ [.dict [] false]) where
  len := by simp [r.len]
  nd := by
    rw [List.map_append, List.nodup_append]
    refine ⟨r.nd, by simp, fun b ha c hb => ?_⟩
    simp only [List.map_cons, List.map_nil, List.mem_singleton] at hb
    subst hb
    obtain ⟨q, hq, rfl⟩ := List.mem_map.mp ha
    intro e
    obtain ⟨b, f⟩ := q
    have e' : b = _ := e
    subst e'
    exact hd f hq
  at_ := fun l o' b f e1 e2 => by
    by_cases hl : l < m.length
    · rw [List.getElem?_append_left hl] at e1
      rw [List.getElem?_append_left (by rw [r.len]; exact hl)] at e2
      exact ⟨(r.at_ l o' b f e1 e2).1, (r.at_ l o' b f e1 e2).2.mono (TL.refl _ _) ⟨_, rfl⟩ (fun _ e => e) fun _ e => e⟩
    · have hl2 : l = m.length := by
        have := (List.getElem?_eq_some_iff.mp e1).1
        simp only [List.length_append, List.length_singleton] at this
        omega
      subst hl2
      rw [List.getElem?_append_right (Nat.le_refl _)] at e1
      rw [List.getElem?_append_right (by rw [r.len]; exact Nat.le_refl _)] at e2
      simp only [Nat.sub_self, List.getElem?_cons_zero, Option.some.injEq, r.len] at e1 e2
      subst e1
      cases e2
      exact ⟨rfl, hs, Nat.zero_le _, #[], 0, h, .inl empty_ent⟩
theorem dictO_laid {pins : List (Addr × Obj)} {σ : L2.St} {H : Hp} {s : Shared} (I : L2.Inv X pins σ H s) : L2.Inv X pins σ (upd H s.heap.objs.size (dictO s.heap.objs.size #[] 0)) { s with heap := s.heap.push { cls := .type "dict", data := .dict #[] } } :=
  I.laid (a := s.heap.objs.size) (t' := s.toks) (fun _ _ q => Heap.get?_push_of_some _ q) (Nat.le_refl _) (dictO_new ⟨_, Heap.get?_push_size _ rfl, ⟨rfl, rfl, rfl⟩, rfl⟩)
theorem big_ne {pins : List (Addr × Obj)} {σ : L2.St} {H : Hp} {s : Shared} (I : L2.Inv X pins σ H s) : (s.heap.objs.size == sysModules) = false := beq_eq_false_iff_ne.mpr (Ne.symm (Nat.ne_of_lt I.big))
theorem xempty_ok : PE X (.Dict [] [] pos) (tE G W fe xEmpty) := by
  refine ⟨fun pins s σ H Q I h => ?_⟩
  obtain ⟨β, m, ρ, rp, rs, g⟩ := h
  have hn := I.hok.fresh (Nat.le_refl s.heap.objs.size)
  have le := Hle.upd (o := dictO s.heap.objs.size #[] 0) hn
  refine wpAny_Dict_empty ⟨.ref s.heap.objs.size, _, dictO_laid I, rfl, ?_⟩
  have nd : ∀ f, (s.heap.objs.size, f) ∉ β := fun f => rp.fresh hn f
  refine g _ (β ++ [(s.heap.objs.size, false)]) _ (Ext.alloc hn) ((rp.le le).joinD nd (big_ne I) upd_same) ?_
  simp only [RV]
  exact ⟨_, false, rfl, by rw [← rp.len]; simp⟩
/-- pairs of values -/
def RKV (G : Gx) (H : Hp) (β : List Pl) : List (V × V) → List (D × D) → Prop := Paired fun p q => RV G H β p.1 q.1 ∧ RV G H β p.2 q.2
theorem RKV.mono {H H' : Hp} {β β' : List Pl} {ps : List (V × V)} {qs : List (D × D)} (t : TL G.K H H') (b : BL β β') (h : RKV G H β ps qs) : RKV G H' β' ps qs := Paired.mapP h fun _ _ z => ⟨RV.mono t b _ _ z.1, RV.mono t b _ _ z.2⟩
theorem kv_red {σ : L2.St} {Q : List (V × V) → Hp → Prop} : ∀ (l : List (Den × Den)) {H : Hp} {β : List Pl} {m : Mem} {ρ : Env}, Rp G H β m → RS G H β σ ρ → GoodO G (fun c d H' => W c d σ H') H β (fun qs m' H' β' => ∀ ps, RKV G H' β' ps qs → Q ps H') (kvD l fe ρ m) →
    tPairs (l.map fun p => (tE G W fe p.1, tE G W fe p.2)) σ H Q
  | [], H, β, m, ρ, rp, rs, g => g β H Ext.refl rp [] .nil
  | (a, b) :: r, H, β, m, ρ, rp, rs, g => by
    simp only [kvD] at g
    refine ⟨β, m, ρ, rp, rs, (GoodO.mono (GoodO.bind g) fun x m1 H1 β1 e1 rp1 g1 u ru => ?_).e⟩
    refine ⟨β1, m1, ρ, rp1, rs.ext rp e1, (GoodO.mono (GoodO.bind g1) fun y m2 H2 β2 e2 rp2 g2 w rw' => ?_).e⟩
    refine kv_red r rp2 ((rs.ext rp e1).ext rp1 e2) (Q := fun ps H3 => Q ((u, w) :: ps) H3) (GoodO.mono (GoodO.bind g2) fun qs m3 H3 β3 e3 rp3 g3 ps rps => ?_)
    exact g3 β3 H3 Ext.refl rp3 _ (.cons ⟨RV.mono (e3.tl rp2) e3.bl _ _ (RV.mono (e2.tl rp1) e2.bl _ _ ru), RV.mono (e3.tl rp2) e3.bl _ _ rw'⟩ rps)
theorem store_all (on : On G X) (hu : X.A.units + 64 < cLine) {pins : List (Addr × Obj)} {σ : L2.St} {a : Addr} {l : Nat} {E : Value → Shared → Prop} {R : Unit → Shared → Prop} (hs : (a == sysModules) = false) : ∀ (ps : List (V × V)) (qs : List (D × D)) (ws : List (Value × Value)) (acc kvs : List (D × D)) (H : Hp) (β : List Pl) (m : Mem) (s : Shared),
    L2.Inv X pins σ H s → Rp G H β m → β[l]? = some (a, false) → m[l]? = some (.dict acc false) → RKV G H β ps qs → VV ps ws → dictP acc qs = some kvs →
    (∀ H' s', L2.Inv X pins σ H' s' → Ext β H H' β → Rp G H' β (m.set l (.dict kvs false)) → R () s') → wpAny (model X.prog X.w) X.A (storeAll a ws) (fun _ s' => R () s') E s
  | [], qs, ws, acc, kvs, H, β, m, s, I, rp, ha, hm, rk, rv, hd, hR => by
    cases rk
    cases rv
    simp only [dictP, Option.some.injEq] at hd
    subst hd
    unfold storeAll
    rw [List.forIn_nil]
    refine wpAny_pure (hR H s I Ext.refl ?_)
    rw [show m.set l (.dict acc false) = m from ?_]
    · exact rp
    · apply List.ext_getElem?
      intro i
      by_cases hi : l = i
      · subst hi; rw [List.getElem?_set_self (List.getElem?_eq_some_iff.mp hm).1, hm]
      · rw [List.getElem?_set_ne hi]
  | p :: ps, qs, ws, acc, kvs, H, β, m, s, I, rp, ha, hm, rk, rv, hd, hR => by
    cases rk with
    | @cons _ q _ qs rq rk =>
    cases rv with
    | @cons _ w _ ws rw' rv =>
    obtain ⟨k, v⟩ := q
    simp only [dictP] at hd
    split at hd
    · rename_i c
      obtain ⟨a', es, ep, e0, ha', _, hl, h1, h2⟩ := rp.dict hm (v := .ref a) (by simp only [RV]; exact ⟨a, false, rfl, ha⟩)
      cases e0
      unfold storeAll
      rw [List.forIn_cons]
      refine wpAny_bind (wpAny_bind (dset_ok on hu I rp ha hs hl c.2 h1 h2 c.1 rq.1 rw'.1 rq.2 rw'.2 fun es' ep' s' I' rp' => wpAny_pure ?_))
      have xw := Ext.write (H := H) (ob := dictO a es' ep') ha
      have hm' : (m.set l (.dict (dPut acc k v) false))[l]? = some (.dict (dPut acc k v) false) := List.getElem?_set_self (List.getElem?_eq_some_iff.mp hm).1
      refine store_all on hu hs ps qs ws _ kvs _ β _ s' I' rp' ha hm' (RKV.mono (xw.tl rp) (BL.refl _) rk) rv hd fun H' s2 I2 x2 rp2 => hR H' s2 I2 (xw.trans x2) ?_
      rw [List.set_set] at rp2
      exact rp2
    · cases hd
theorem xdict_ok (on : On G X) (hu : X.A.units + 64 < cLine) (h : PPs X pos keys values (l.map fun p => (tE G W fe p.1, tE G W fe p.2))) (hall : keys.all (·.isSome) = true) (hl : keys.length = values.length) (h0 : keys ≠ []) (h15 : keys.length ≤ 15) :
    PE X (.Dict keys values pos) (tE G W fe (xDict l)) := by
  refine ⟨fun pins s σ H Q I q => ?_⟩
  obtain ⟨β, m, ρ, rp, rs, g⟩ := q
  have hn := I.hok.fresh (Nat.le_refl s.heap.objs.size)
  have le := Hle.upd (o := dictO s.heap.objs.size #[] 0) hn
  have I1 := dictO_laid I
  have hs := big_ne I
  have nd : ∀ f, (s.heap.objs.size, f) ∉ β := fun f => rp.fresh hn f
  have hk : GoodO G (fun c d H' => W c d σ H') (upd H s.heap.objs.size (dictO s.heap.objs.size #[] 0)) β (fun qs m2 H2 β2 => kvD l fe ρ m = .ok qs m2 ∧ Ext β (upd H s.heap.objs.size (dictO s.heap.objs.size #[] 0)) H2 β2 ∧ Rp G H2 β2 m2) (kvD l fe ρ m) := by
    unfold xDict at g
    cases ek : kvD l fe ρ m with
    | ok qs m2 => exact fun β2 H2 x r => ⟨rfl, x, r⟩
    | exc c p m2 => rw [ek] at g; exact PostX.ext g (Ext.le le)
    | bad => rw [ek] at g; exact g
  have red := kv_red (Q := fun ps H2 => ∃ β2 m2 qs, kvD l fe ρ m = .ok qs m2 ∧ Ext β (upd H s.heap.objs.size (dictO s.heap.objs.size #[] 0)) H2 β2 ∧ Rp G H2 β2 m2 ∧ RKV G H2 β2 ps qs) l (rp.le le) (rs.ext rp (Ext.le le))
    (GoodO.mono hk fun qs m2 H2 β2 e2 rp2 g2 ps rps => ⟨β2, m2, qs, g2.1, g2.2.1, rp2, rps⟩)
  refine wpAny_Dict_any hall hl h0 h15 (thn (h.run pins _ σ _ _ I1 red) fun ws s2 ⟨ps, H2, I2, rel, β2, m2, qs, ek, x2, rp2, rk⟩ => ?_)
  have hA : H2 s.heap.objs.size = some (dictO s.heap.objs.size #[] 0) := x2.fr _ _ upd_same (nd false)
  have nd2 := nd_next nd upd_same x2
  unfold xDict at g
  rw [ek] at g
  simp only [Out.bind_ok] at g
  cases hd : dictP [] qs with
  | none => rw [hd] at g; exact False.elim g
  | some kvs =>
    rw [hd] at g
    have rj := rp2.joinD nd2 hs hA
    have hb : (β2 ++ [(s.heap.objs.size, false)])[m2.length]? = some (s.heap.objs.size, false) := by rw [← rp2.len]; simp
    refine store_all (R := fun _ s' => EP X pins σ Q (.ref s.heap.objs.size) s') on hu hs ps qs ws [] kvs H2 (β2 ++ [(s.heap.objs.size, false)]) (m2 ++ [.dict [] false]) s2 I2 rj hb (by simp) (RKV.mono (TL.refl _ _) ⟨_, rfl⟩ rk) rel hd fun H' s' I' x' rp' => ?_
    refine ⟨.ref s.heap.objs.size, H', I', rfl, ?_⟩
    rw [List.set_append_right _ _ (Nat.le_refl _), Nat.sub_self, List.set_cons_zero] at rp'
    refine g _ (β2 ++ [(s.heap.objs.size, false)]) H' ⟨x2.bl.trans ⟨_, rfl⟩, fun b o e n => ?_, fun b f hbf => ?_⟩ rp' ?_
    · have e1 : upd H s.heap.objs.size (dictO s.heap.objs.size #[] 0) b = some o := le _ _ e
      refine x'.fr b o (x2.fr b o e1 n) fun z => ?_
      rcases List.mem_append.mp z with z | z
      · rcases x2.nw b false z with z | z | z
        · exact n z
        · exact n z
        · rw [e1] at z; cases z
      · simp only [List.mem_singleton] at z
        cases z
        rw [hn] at e; cases e
    · rcases List.mem_append.mp hbf with z | z
      · rcases x2.nw b f z with z | z | z
        · exact .inl z
        · exact .inr (.inl z)
        · refine .inr (.inr ?_)
          cases q : H b with
          | none => rfl
          | some o => rw [le _ _ q] at z; cases z
      · simp only [List.mem_singleton] at z
        cases z; exact .inr (.inr hn)
    · simp only [RV]
      exact ⟨_, false, rfl, hb⟩
end
end Mn
set_option Elab.async false
set_option linter.all false
set_option maxRecDepth 100000
set_option maxHeartbeats 1000000
/-! Mn16: isinstance, calls, raise, try. -/
namespace Mn
open PySem L2 PySem.Spec PyProof.Rows
/-! ### isinstance -/
def tyN (m : Mem) : D → Option String
  | .non => some "NoneType"
  | .bl _ => some "bool"
  | .int _ => some "int"
  | .str _ => some "str"
  | .tup _ => some "tuple"
  | .seq _ => some "list"
  | .loc l => match m[l]? with
    | some (.lst _) => some "list"
    | _ => none
  | .fn _ => none
def isT (t T : String) : Bool := t == T || (t == "bool" && T == "int")
abbrev tys : List String := ["NoneType", "bool", "int", "str", "tuple", "list"]
theorem kit_all : tys.all (fun t => tys.tail.all fun T => decide (kitB t T = some (isT t T))) = true := by decide +kernel
theorem kit_at {t T : String} (h : t ∈ tys) (h' : T ∈ tys.tail) : kitB t T = some (isT t T) := by
  have h1 := List.all_eq_true.mp kit_all t h
  exact of_decide_eq_true (List.all_eq_true.mp h1 T h')
def xIsi (Ts : List String) (a : Den) : Den := fun fe ρ m => (a fe ρ m).bind fun x m1 => match tyN m1 x with
  | some t => .ok (.bl (Ts.any (isT t))) m1
  | none => .bad
section
variable {G : Gx} {X : Cx} {W : WX} {fe : FE} {e : Expr} {d : Den} {pos p q q2 tp : Pos}
theorem tyN_x {H : Hp} {β : List Pl} {m : Mem} {x : D} {v : V} {t : String} (on : On G X) (rp : Rp G H β m) (r : RV G H β v x) (h : tyN m x = some t) : TyX X.K H v (.type t) ∧ t ∈ tys := by
  cases x with
  | non => simp only [RV] at r; subst r; simp only [tyN, Option.some.injEq] at h; subst h; exact ⟨.base .non, by simp [tys]⟩
  | bl b => simp only [RV] at r; subst r; simp only [tyN, Option.some.injEq] at h; subst h; exact ⟨.base (.bl b), by simp [tys]⟩
  | int b => simp only [RV] at r; subst r; simp only [tyN, Option.some.injEq] at h; subst h; exact ⟨.base (.int b), by simp [tys]⟩
  | str b => simp only [RV] at r; subst r; simp only [tyN, Option.some.injEq] at h; subst h; exact ⟨.base (.str b), by simp [tys]⟩
  | tup ds =>
    simp only [RV] at r
    obtain ⟨a, xs, rfl, h1, _⟩ := r
    simp only [tyN, Option.some.injEq] at h; subst h
    rcases h1 with ⟨o, h1, _⟩ | ⟨o, its, n, h1, h2, _⟩
    · exact ⟨.fTuple h1, by simp [tys]⟩
    · exact ⟨.kTuple (on.K ▸ h1) h2, by simp [tys]⟩
  | seq ds =>
    simp only [RV] at r
    obtain ⟨a, xs, rfl, h1, _⟩ := r
    simp only [tyN, Option.some.injEq] at h; subst h
    rcases h1 with ⟨o, h1⟩ | ⟨o, its, n, h1, h2, _⟩
    · exact ⟨.base (.frz h1), by simp [tys]⟩
    · exact ⟨.kList (on.K ▸ h1) h2, by simp [tys]⟩
  | loc l =>
    simp only [tyN] at h
    split at h
    · rename_i xs e
      simp only [Option.some.injEq] at h; subst h
      obtain ⟨a, zs, rfl, _, h1, _⟩ := rp.lst e r
      exact ⟨.base (.lst h1), by simp [tys]⟩
    · cases h
  | fn n => simp [tyN] at h
theorem xisi1_ok {T : String} {x : Str} (on : On G X) (hT : T ∈ tys.tail) (he : PE X e (tE G W fe d)) (hg : Gl X "isinstance") (hm : X.mg "isinstance" = none) (hv : bootBuiltins "isinstance" = some (.builtin "isinstance")) (hn : ("isinstance" : Str) ≠ "__name__") (hdb : (("isinstance" : Str) == ("__debug__" : Str)) = false)
    (hgT : Gl X x) (hmT : X.mg x = none) (hvT : bootBuiltins x = some (.type T)) (hnT : x ≠ "__name__") (hdT : (x == ("__debug__" : Str)) = false)
    (hs : starEach [e, .Name x q] X.env = (false, eval e X.env) :: starEach [.Name x q] X.env) (hs2 : starEach [.Name x q] X.env = (false, eval (.Name x q) X.env) :: starEach [] X.env) (hpl : (backTo pos (starEach [.Name x q] X.env)).any (·.1) = false) :
    PE X (.Call (.Name "isinstance" p) [e, .Name x q] [] pos) (tE G W fe (xIsi [T] d)) :=
  PE.imp (pe_callB call_isi hg hm hv (pa_cons he (pa_cons (pe_bltn hgT hmT hvT (show L2.RelV (.ty T) (.type T) from rfl) hnT hdT) pa_nil hs2) hs) hn hdb hs hpl) fun σ H Q h => by
    obtain ⟨β, m, ρ, rp, rs, g⟩ := h
    refine ⟨β, m, ρ, rp, rs, (GoodO.mono (GoodO.bind (GoodE.iff.mp g)) fun x m1 H1 β1 e1 rp1 g1 u ru => ?_).e⟩
    cases ht : tyN m1 x with
    | none => rw [ht] at g1; exact False.elim g1
    | some t =>
      rw [ht] at g1
      obtain ⟨ty, hmem⟩ := tyN_x on rp1 ru ht
      refine ⟨u, .ty T, .type t, .type T, _, rfl, .ty T, ty, kit_ty (kit_at hmem hT), ?_⟩
      have := Post.bl (GoodE.iff.mpr g1) rp1
      simpa using this
theorem xisi2_ok {T T2 : String} {x x2 : Str} {k : Nat} (on : On G X) (hT : T ∈ tys.tail) (hT2 : T2 ∈ tys.tail) (he : PE X e (tE G W fe d)) (hg : Gl X "isinstance") (hm : X.mg "isinstance" = none) (hv : bootBuiltins "isinstance" = some (.builtin "isinstance")) (hn : ("isinstance" : Str) ≠ "__name__") (hdb : (("isinstance" : Str) == ("__debug__" : Str)) = false)
    (hgT : Gl X x) (hmT : X.mg x = none) (hvT : bootBuiltins x = some (.type T)) (hnT : x ≠ "__name__") (hdT : (x == ("__debug__" : Str)) = false)
    (hgT2 : Gl X x2) (hmT2 : X.mg x2 = none) (hvT2 : bootBuiltins x2 = some (.type T2)) (hnT2 : x2 ≠ "__name__") (hdT2 : (x2 == ("__debug__" : Str)) = false)
    (hst : starEach [.Name x q, .Name x2 q2] X.env = (false, eval (.Name x q) X.env) :: starEach [.Name x2 q2] X.env) (hst2 : starEach [.Name x2 q2] X.env = (false, eval (.Name x2 q2) X.env) :: starEach [] X.env)
    (hs : starEach [e, .Tuple [.Name x q, .Name x2 q2] k tp] X.env = (false, eval e X.env) :: starEach [.Tuple [.Name x q, .Name x2 q2] k tp] X.env) (hs2 : starEach [.Tuple [.Name x q, .Name x2 q2] k tp] X.env = (false, eval (.Tuple [.Name x q, .Name x2 q2] k tp) X.env) :: starEach [] X.env) (hpl : (backTo pos (starEach [.Tuple [.Name x q, .Name x2 q2] k tp] X.env)).any (·.1) = false) :
    PE X (.Call (.Name "isinstance" p) [e, .Tuple [.Name x q, .Name x2 q2] k tp] [] pos) (tE G W fe (xIsi [T, T2] d)) :=
  PE.imp (pe_callB call_isiT hg hm hv (pa_cons he (pa_cons (pe_tup (pa_cons (pe_bltn hgT hmT hvT (show L2.RelV (.ty T) (.type T) from rfl) hnT hdT) (pa_cons (pe_bltn hgT2 hmT2 hvT2 (show L2.RelV (.ty T2) (.type T2) from rfl) hnT2 hdT2) pa_nil hst2) hst)) pa_nil hs2) hs) hn hdb hs hpl) fun σ H Q h => by
    obtain ⟨β, m, ρ, rp, rs, g⟩ := h
    refine ⟨β, m, ρ, rp, rs, (GoodO.mono (GoodO.bind (GoodE.iff.mp g)) fun x m1 H1 β1 e1 rp1 g1 u ru => ?_).e⟩
    cases ht : tyN m1 x with
    | none => rw [ht] at g1; exact False.elim g1
    | some t =>
      rw [ht] at g1
      obtain ⟨ty, hmem⟩ := tyN_x on rp1 ru ht
      refine ⟨by rw [sizeLine_eq]; show 2 ≤ 16777216; omega, fun a ha => ?_⟩
      have le := Hle.upd (o := .tup [.ty T, .ty T2]) ha
      have ty' : TyX X.K (upd H1 a (.tup [.ty T, .ty T2])) u (.type t) := (tyN_x on (rp1.le le) (RV.mono le.tl (BL.refl _) _ _ ru) ht).1
      refine ⟨u, a, [.ty T, .ty T2], .type t, [.type T, .type T2], ([T, T2].any (isT t)), rfl, upd_same, .cons (.ty T) (.cons (.ty T2) .nil), ty', ?_, ?_⟩
      · refine kitAny_cons (kit_ty (kit_at hmem hT)) (fun hb => kitAny_cons (kit_ty (kit_at hmem hT2)) (fun hb2 => ?_) fun hb2 => ?_) fun hb => ?_
        · simp [hb, hb2, PySem.W.kitAny]
        · simp [hb2]
        · simp [hb]
      · exact g1 β1 _ (Ext.le le) (rp1.le le) _ (by simp [RV])
end
/-! ### calls -/
/-- the promise of a def that does d -/
def spF (G : Gx) (d : List D → Mem → Out D) : Sp := fun vs H Q E => ∃ β m ds, Rp G H β m ∧ RVs G H β vs ds ∧ GoodE G E H β Q (d ds m)
/-- what is known of the defs that may be called here -/
def Fns (G : Gx) (P : Program) (w : World) (K : PySem.W.Frag) (mg : Str → Option Value) (base : Heap) (k : Nat) (fe : FE) : Prop :=
  ∀ j f, G.fa j = some f → ∃ fd ps, FnOk P w K mg base (L2.CX P w) k f fd ps (spF G (fe j)) ∧ PySem.W.keepIn K (.ref f) = true ∧ Binds K fd ps []
def xCall (j : Nat) (a : DenA) : Den := fun fe ρ m => (a fe ρ m).bind fun ds m1 => fe j ds m1
/-- i's value is a def -/
def xCallV (i : Nat) (a : DenA) : Den := fun fe ρ m => match ρ[i]? with
  | some (some (.fn j)) => (a fe ρ m).bind fun ds m1 => fe j ds m1
  | _ => .bad
section
variable {G : Gx} {X : Cx} {W : WX} {fe : FE} {e : Expr} {es : List Expr} {dA : DenA} {x : Str} {p pos : Pos} {j k i : Nat} {f : Addr}
theorem call_red {σ : L2.St} {H : Hp} {Q : VK} {β : List Pl} {m : Mem} {ρ : Env} (rp : Rp G H β m) (rs : RS G H β σ ρ) (g : GoodE G (fun c d H' => W c d σ H') H β Q ((dA fe ρ m).bind fun ds m1 => fe j ds m1)) : tA G W fe dA σ H fun vs H1 => spF G (fe j) vs H1 Q (WE W σ) :=
  ⟨β, m, ρ, rp, rs, GoodO.mono (GoodO.bind (GoodE.iff.mp g)) fun ds m1 H1 β1 e1 rp1 g1 vs rvs => ⟨β1, m1, ds, rp1, rvs, GoodE.iff.mpr g1⟩⟩
theorem xcall_ok (F : Fns G X.prog X.w X.K X.mg X.base k fe) (tk : Takes X W) (hr : Room k X.A) (hj : G.fa j = some f) (hg : Gl X x) (hm : X.mg x = some (.ref f)) (ha : PA X (e :: es) (tA G W fe dA))
    (hdb : (x == ("__debug__" : Str)) = false) (he : starEach (e :: es) X.env = (false, eval e X.env) :: starEach es X.env) (hpl : (backTo pos (starEach es X.env)).any (·.1) = false) : PE X (.Call (.Name x p) (e :: es) [] pos) (tE G W fe (xCall j dA)) := by
  obtain ⟨fd, ps, F1, hk, hb⟩ := F j f hj
  refine PE.imp (pe_callSD (E := WE W) F1 hr hg hm hk hb .nil (passAt tk) ha hdb he hpl) fun σ H Q h => ?_
  obtain ⟨β, m, ρ, rp, rs, g⟩ := h
  show tA G W fe dA σ H fun vs H1 => spF G (fe j) (vs ++ []) H1 Q (WE W σ)
  simp only [List.append_nil]
  exact call_red rp rs g
theorem xcall0_ok (F : Fns G X.prog X.w X.K X.mg X.base k fe) (tk : Takes X W) (hr : Room k X.A) (hj : G.fa j = some f) (hg : Gl X x) (hm : X.mg x = some (.ref f)) (hdb : (x == ("__debug__" : Str)) = false) : PE X (.Call (.Name x p) [] [] pos) (tE G W fe (xCall j aNil)) := by
  obtain ⟨fd, ps, F1, hk, hb⟩ := F j f hj
  refine ⟨fun pins s σ H Q I h => ?_⟩
  obtain ⟨β, m, ρ, rp, rs, g⟩ := h
  refine wpAny_Call_Name_kw (ld_glob I hg hm ?_ hdb)
  refine PySem.W.callWith_K0 I.kIn hk (run_fnSD (us := []) (vs := []) (E := WE W) F1 hr hb .nil (passAt tk σ) I .nil ?_)
  exact ⟨β, m, [], rp, RVs.nil, g⟩
theorem xcallV_ok (F : Fns G X.prog X.w X.K X.mg X.base k fe) (tk : Takes X W) (hr : Room k X.A) (hN : X.N[i]? = some x) (hv : Vis X.env.scope x) (ha : PA X (e :: es) (tA G W fe dA))
    (hdb : (x == ("__debug__" : Str)) = false) (hcd : (x == ("__classdict__" : Str)) = false) (he : starEach (e :: es) X.env = (false, eval e X.env) :: starEach es X.env) (hpl : (backTo pos (starEach es X.env)).any (·.1) = false) : PE X (.Call (.Name x p) (e :: es) [] pos) (tE G W fe (xCallV i dA)) := by
  refine ⟨fun pins s σ H Q I h => ?_⟩
  obtain ⟨β, m, ρ, rp, rs, g⟩ := h
  unfold xCallV at g
  split at g
  · rename_i j hj
    obtain ⟨v, hs, rv⟩ := rs.at_ i _ hj
    simp only [RV] at rv
    obtain ⟨f, rfl, hf⟩ := rv
    obtain ⟨fd, ps, F1, hk, hb⟩ := F j f hf
    refine wpAny_Call_Name_kw (thn ((pe_var (pos := p) hN hv hdb hcd).run pins s σ H (fun v H1 => v = .ref f ∧ H1 = H) I ⟨.ref f, hs, rfl, rfl⟩) fun u s1 ⟨v, H1, I1, r1, q1⟩ => ?_)
    obtain ⟨rfl, rfl⟩ := q1
    cases r1
    refine PySem.W.callWith_K (h₀ := X.base) I.ok.mod.kin hk (thn (ha.run pos pins s1 σ _ _ I1 (call_red rp rs g)) fun us s2 ⟨vs, H2, I2, r, q⟩ => ⟨I2.kIn, ?_⟩) he hpl
    exact run_fnSD (E := WE W) F1 hr hb .nil (passAt tk σ) I2 r (by rw [List.append_nil]; exact q)
  · exact g.elim
/-- a def's call: the parameters' slots first -/
def bodyD (np nN : Nat) (den : DenS) (fe : FE) (ds : List D) (m : Mem) : Out D := if ds.length = np then (match den fe (ds.map some ++ List.replicate (nN - np) none) m with
      | .ret v m' => .ok v m'
      | .next _ m' => .ok .non m'
      | .exc c p _ m' => .exc c p m'
      | _ => .bad) else .bad
/-- a def's body does what it does -/
theorem body_ok {N ps : List Str} {q : Str} {st : Stmt} {fd : FuncData} {P : Program} {w : World} {K : PySem.W.Frag} {mg : Str → Option Value} {base : Heap} {fe : FE} {den : DenS} (F : Fun K x q st f fd) (S : FnScope N ps (defScope st))
    (hb : ∀ (cdv : Value) (A : Around) (outer : List PySem.Env) (s : Shared) (H : Hp) (E : XK), Room k (A.deeper (envOfC q (defScope st) s.heap.objs.size f cdv)) → PSs (cxOf (L2.CX P w) P w K mg base N q (defScope st) f cdv A outer s H E) (defBody st) (tS G (fun c d _ H => E c d H) fe den)) :
    FnOk P w K mg base (L2.CX P w) (k + 1) f fd ps (spF G (bodyD ps.length N.length den fe)) := by
  refine F.okX S (fun vs H Q E h => ?_) fun cdv A outer s H vs Q E hr h => ⟨_, hb cdv A outer s H E hr, ?_⟩
  · obtain ⟨β, m, ds, rp, rv, g⟩ := h
    unfold bodyD at g
    split at g
    · rename_i c; rw [rv.length]; exact c
    · exact g.elim
  · obtain ⟨β, m, ds, rp, rv, g⟩ := h
    unfold bodyD at g
    split at g
    · rename_i c
      refine ⟨β, m, ds.map some ++ List.replicate (N.length - ps.length) none, rp, ⟨?_, fun i d hi => ?_⟩, ?_⟩
      · simp only [L2.start, List.length_append, List.length_map, List.length_replicate, rv.length, c]
      · have hlt : i < ds.length := by
          rcases Nat.lt_or_ge i ds.length with h | h
          · exact h
          · rw [List.getElem?_append_right (by simpa using h)] at hi
            rw [List.getElem?_replicate] at hi
            split at hi
            · simp at hi
            · cases hi
        rw [List.getElem?_append_left (by simpa using hlt), List.getElem?_map] at hi
        obtain ⟨d', hd', e⟩ := Option.map_eq_some_iff.mp hi
        cases e
        obtain ⟨v, hv, r⟩ := rv.get hd'
        refine ⟨v, ?_, r⟩
        unfold L2.start
        rw [List.getElem?_append_left (by simpa [rv.length] using hlt), List.getElem?_map, hv]; rfl
      · generalize den fe (ds.map some ++ List.replicate (N.length - ps.length) none) m = r at g
        cases r with
        | ret v m' => exact fun u β' H' x r q => g u β' H' x r q
        | next ρ m' => exact fun σ' β' H' x r q => g .non β' H' x r (by simp [RV])
        | exc c p ρ m' => exact fun cls dd σ' β' H' x r q z => g cls dd β' H' x r z
        | brk ρ m' => exact g.elim
        | cont ρ m' => exact g.elim
        | bad => exact g.elim
    · exact g.elim
end
end Mn
set_option Elab.async false
set_option linter.all false
set_option maxRecDepth 100000
set_option maxHeartbeats 1000000
/-! Mn17: raise, try. -/
namespace Mn
open PySem L2 PySem.Spec PyProof.Rows
/-! ### raise -/
def sRaise0 (c : Nat) : DenS := fun _ ρ m => .exc c none ρ m
def sRaise1 (c : Nat) (a : DenA) : DenS := fun fe ρ m => .ofE (a fe ρ m) ρ fun vs m1 => match vs with
  | [v] => .exc c (some v) ρ m1
  | _ => .bad
section
variable {X : Cx} {pos : Pos}
/-- X(), X an own exception class without own __init__ -/
theorem pmk_own0 {C : Addr} {bmB : List Value} {B newId initId : String} {x : Str} {p : Pos} (F : ExcBaseFacts B newId initId bmB) (q : PySem.W.excIn X.K C bmB newId = true) (gC : X.mg x = some (.ref C))
    (kC : PySem.W.keepIn X.K (.ref C) = true) (r : Raises X (.ref C)) (hg : Gl X x) (hdb : (x == ("__debug__" : Str)) = false) :
    PMk X (.Call (.Name x p) [] [] pos) (fun σ H Q => Q (.ref C) none H) := by
  intro pins s σ H Q I h
  refine wpAny_Call_Name_kw (ld_glob I hg gC ?_ hdb)
  refine PySem.W.callWith_K0 I.kIn kC ?_
  show wpAny _ _ (call (.ref C) []) _ _ _
  obtain ⟨bm, N, nm, qn, bs, hdct, sn, sub, ab, col, dd, k0, k1, k2, k3, k5, mN, hC, hN, hni, T⟩ := exc_obj I.kIn q
  refine wpAny_call_exc_subT F T hC hN hni (fun h' e hm => ?_) (Nat.zero_le _)
  exact mk_of I hm r h (I.hok.gone hm.new)
/-- what __init__(self, word): self.word = word does -/
def spInit (K : PySem.W.Frag) (fld : Str) : Sp := fun vs H Q _ => ∃ (a C : Addr) (v : V), vs = [.ref a, v] ∧ OexC K C ∧ PySem.W.findIn K (.ref C) fld = some none ∧ H a = some (exo a C none) ∧
  ∀ dx, H dx = none → dx ≠ a → Q .non (upd (upd H dx (exd dx [(fld, v)])) a (exo a C (some dx)))
variable {G : Gx} {W : WX} {fe : FE} {e : Expr} {dA : DenA} {x : Str} {p pos2 : Pos} {c k : Nat} {C fI : Addr} {fd : FuncData}
theorem sraise0_ok {bmB : List Value} {B newId initId : String} (hc : X.calm = true) (tk : Takes X W) (F : ExcBaseFacts B newId initId bmB) (q : PySem.W.excIn X.K C bmB newId = true) (gC : X.mg x = some (.ref C))
    (kC : PySem.W.keepIn X.K (.ref C) = true) (r : Raises X (.ref C)) (hg : Gl X x) (hdb : (x == ("__debug__" : Str)) = false) (hca : G.ca c = some C) :
    PS X (.Raise (some (.Call (.Name x p) [] [] pos)) none pos2) (tS G W fe (sRaise0 c)) := PS.imp (ps_raise hc tk (pmk_own0 F q gC kC r hg hdb)) fun D σ H h => by
  obtain ⟨β, m, ρ, rp, rs, g⟩ := h
  exact g _ _ σ β H Ext.refl rp rs ⟨C, rfl, hca, rfl⟩
theorem sraise1_ok (hc : X.calm = true) (tk : Takes X W) (T : OexC X.K C) (iC : PySem.W.findIn X.K (.ref C) "__init__" = some (some (.ref fI))) (tI : PySem.W.typeIn X.K (.ref fI) = some (.type "function"))
    (F1 : FnOk X.prog X.w X.K X.mg X.base (L2.CX X.prog X.w) k fI fd ["self", "word"] (spInit X.K (G.xf c))) (hr : Room (k + 1) X.A) (hb : Binds X.K fd ["self", "word"] []) (hno : PySem.W.findIn X.K (.ref C) (G.xf c) = some none) (hg : Gl X x) (hm : X.mg x = some (.ref C)) (ha : PA X [e] (tA G W fe dA)) (hca : G.ca c = some C)
    (hdb : (x == ("__debug__" : Str)) = false) (he : starEach [e] X.env = (false, eval e X.env) :: starEach [] X.env) (hpl : (backTo pos (starEach [] X.env)).any (·.1) = false) :
    PS X (.Raise (some (.Call (.Name x p) [e] [] pos)) none pos2) (tS G W fe (sRaise1 c dA)) := PS.imp (ps_raise hc tk (pmk_oex T iC tI F1 hr hb .nil passL hg hm ha hdb he hpl)) fun D σ H h => by
  obtain ⟨β, m, ρ, rp, rs, g⟩ := h
  refine ⟨β, m, ρ, rp, rs, GoodO.mono (GoodS.ofE rp rs g) fun vs m1 H1 β1 x rp1 g1 us rvs => ?_⟩
  obtain ⟨rs1, g1⟩ := g1
  split at g1
  · rename_i v
    obtain ⟨u, rfl, ru⟩ := rvs.split1
    refine ⟨by show 1 ≤ 1000; decide, fun a ha => ⟨a, C, u, rfl, T, hno, upd_same, fun dx hdx ne => ?_⟩⟩
    have hdx' : H1 dx = none := by rw [upd_ne ne] at hdx; exact hdx
    refine ⟨rfl, dx, [(G.xf c, u)], upd_same, by rw [upd_ne ne]; exact upd_same, hdx', ?_⟩
    have le : Hle H1 (upd (L2.del (upd (upd (upd H1 a (exo a C none)) dx (exd dx [(G.xf c, u)])) a (exo a C (some dx))) a) dx (.xd [(G.xf c, u)])) := fun b o e => by
      have nb : b ≠ a := ne_of_none e ha
      have nd : b ≠ dx := ne_of_none e hdx'
      rw [upd_ne nd, del_ne nb, upd_ne nb, upd_ne nd, upd_ne nb]
      exact e
    exact g1 _ _ σ β1 _ (Ext.le le) (rp1.le le) (rs1.ext rp1 (Ext.le le)) ⟨C, rfl, hca, dx, u, rfl, upd_same, RV.mono le.tl (BL.refl _) _ _ ru⟩
  · exact g1.elim
/-- __init__(self, word): self.fld = word -/
theorem init_ok {P : Program} {w : World} {K : PySem.W.Frag} {mg : Str → Option Value} {base : Heap} {x q fld : Str} {st : Stmt} {f : Addr} {fd : FuncData} {q1 q2 q3 q4 : Pos} (F : Fun K x q st f fd) (S : FnScope ["self", "word"] ["self", "word"] (defScope st))
    (hb : defBody st = [.Assign [.Attribute (.Name "self" q1) fld q2] (.Name "word" q3) q4]) : FnOk P w K mg base (L2.CX P w) 1 f fd ["self", "word"] (spInit K fld) := by
  refine F.okX S (fun vs H Q E h => ?_) fun cdv A outer s H vs Q E hr h => ?_
  · obtain ⟨a, C, v, rfl, _⟩ := h
    rfl
  · obtain ⟨a, C, v, rfl, T, hno, he, k⟩ := h
    rw [hb]
    have vis : ∀ y : Str, y ∈ (["self", "word"] : List Str) → Vis (defScope st) y := fun y hy => (S.par y hy).elim .inl fun h => .inr (.inl h)
    refine ⟨_, pss_one (ps_ost (pe_var (i := 0) rfl (vis _ (by simp)) (by decide) (by decide)) (pe_var (i := 1) rfl (vis _ (by simp)) (by decide) (by decide)) rfl), ?_⟩
    exact ⟨v, rfl, .ref a, rfl, a, C, rfl, T, hno, .inl ⟨he, fun dx h1 h2 => k dx h1 h2⟩⟩
end
/-! ### try -/
abbrev Clause := Value × Option Nat × (Addr → Value → Option Addr → TS)
/-- what the clauses wish of an exception of the body, one after the other -/
def wMix (K : PySem.W.Frag) (Wout : WX) (D : Ends) : List Clause → WX
  | [] => Wout
  | (c, none, ts) :: r => fun cls d σ H => ∃ b, PySem.W.exmOne K cls c = some b ∧ (b = true → ∀ a, H a = none → ts a cls d D σ H) ∧ (b = false → wMix K Wout D r cls d σ H)
  | (c, some i, ts) :: r => fun cls d σ H => ∃ b, PySem.W.exmOne K cls c = some b ∧ (b = true → ∀ a, H a = none → ts a cls d { nx := fun σ' H' => D.nx (σ'.set i none) H', rt := D.rt, bk := fun σ' H' => D.bk (σ'.set i none) H', ct := fun σ' H' => D.ct (σ'.set i none) H' } (σ.set i (some (.ref a))) H) ∧ (b = false → wMix K Wout D r cls d σ H)
inductive HdsMix (X : Cx) : List ExceptHandler → List Clause → Prop
  | nil : HdsMix X [] []
  | plain {x : Str} {c : Value} {ts : Addr → Value → Option Addr → TS} {b₀ : Stmt} {suite : List Stmt} {np pos' : Pos} {hds : List ExceptHandler} {l : List Clause} (hc : Names X x c)
      (hsu : ∀ (a : Addr) (oe : Obj) (cls : Value) (d : Option Addr) (pn : List (Addr × Obj)), Zc cls d oe → (∃ vs, oe.data = .fields vs) → PSs (X.suite a ((a, oe) :: pn)) (b₀ :: suite) (ts a cls d)) (r : HdsMix X hds l) :
      HdsMix X (.ExceptHandler (some (.Name x np)) none (b₀ :: suite) pos' :: hds) ((c, none, ts) :: l)
  | as_ {x n : Str} {i : Nat} {c : Value} {ts : Addr → Value → Option Addr → TS} {b₀ : Stmt} {suite : List Stmt} {np pos' : Pos} {hds : List ExceptHandler} {l : List Clause} (hc : Names X x c) (hi : X.N[i]? = some n) (hln : X.env.kindOf n = some .local)
      (hsu : ∀ (a : Addr) (oe : Obj) (cls : Value) (d : Option Addr) (pn : List (Addr × Obj)), Zc cls d oe → (∃ vs, oe.data = .fields vs) → PSs (X.suite a ((a, oe) :: pn)) (b₀ :: suite) (ts a cls d)) (r : HdsMix X hds l) :
      HdsMix X (.ExceptHandler (some (.Name x np)) (some n) (b₀ :: suite) pos' :: hds) ((c, some i, ts) :: l)
section
variable {X : Cx} {body : List Stmt} {h₀ : ExceptHandler} {hds : List ExceptHandler} {l : List Clause} {pos : Pos} {tb : WX → TS} {Wout : WX}
theorem ps_try_mix (hs : X.stack = X.env :: X.outer) (hf : X.env.frame = some X.env.locals) (hN : X.N.Nodup) (tk : Takes X Wout)
    (hb : ∀ (W : WX) (pn : List (Addr × Obj)) (xe : Value → Shared → Prop), Takes (X.tr pn xe) W → PassesOwn (model X.prog X.w) X.A X.env xe → PSs (X.tr pn xe) body (tb W))
    (hh : HdsMix X (h₀ :: hds) l) : PS X (.Try body (h₀ :: hds) [] [] pos) (fun D σ H => tb (wMix X.K Wout D l) D σ H) := by
  refine ⟨fun pins s σ H D I h => ?_⟩
  have ok := I.ok
  have hfr : X.A.frames = some (X.env :: X.outer) := by rw [ok.frames, hs]
  refine wpAny_Try_except ?_
  refine wpAny_mono ((hb (wMix X.K Wout D l) (X.pn ++ pins) (fun e s₁ => wpAny (model X.prog X.w) X.A (noteFrame e X.env) (fun _ s₂ => wpAny (model X.prog X.w) X.A (setFlight e none) (fun _ s₃ =>
    wpAny (model X.prog X.w) X.A (handleBy e X.env (h₀ :: hds)) (SP X pins D) X.xe s₃) X.xe s₂) X.xe s₁) (fun u s' xx => ?_) PassesOwn.looking).run [] s σ H D (I.toTry _) h) (fun f s1 hsp => ?_) (fun e s1 he => he)
  · obtain ⟨a, B, sI, pins', σ', H', cls, d, rfl, J', nb, up, sky, na, os, ag, w⟩ := xx
    have J : L2.Inv X pins σ' H' sI := J'.ofTry ok
    have sky' : Sky B (X.env :: X.outer) a (Zc cls d) X.env.locals s'.heap := by rw [← hs]; exact sky
    show wpAny (model X.prog X.w) X.A (noteFrame (.ref a) X.env) _ _ _
    refine Sky.land Zc.steady hfr hf sky' fun h3 fl3 up3 => ?_
    have J3 : L2.Inv X pins σ' H' { s' with heap := h3 } := J.landed nb fl3.1 (up.trans up3) os ag
    obtain ⟨oe3, vs3, he3, hz3, hd3⟩ := fl3.there
    have notFr : ∀ {h : Heap} {o : Obj} {vs : Array Value}, h.FunFrames B (X.env :: X.outer) → h.get? a = some o → o.data = .fields vs → a ∉ frs (X.env :: X.outer) := fun {h o vs} ff e dd hm => by
      obtain ⟨_, o', e', hnf⟩ := ff.mem hm
      rw [e] at e'; cases e'
      exact hnf _ dd
    have nfr := notFr fl3.2.2.1 he3 hd3
    have nL : a ≠ X.env.locals := fun z => nfr (List.mem_filterMap.mpr ⟨X.env, List.mem_cons_self, by rw [hf, z]⟩)
    have nF : a ∉ X.fs := fun hm => by
      obtain ⟨e, he, q⟩ := List.mem_filterMap.mp hm
      exact nfr (List.mem_filterMap.mpr ⟨e, List.mem_cons_of_mem _ he, q⟩)
    have S3 := J3.suite he3 hd3 na nL nF
    have LT : PySem.W.Looks (model X.prog X.w) h3 (typeOf (.ref a)) cls := fun A Q E s k q => wpAny_typeOf_ref (k _ _ he3) (by rw [hz3.1]; exact q)
    have nameTest : ∀ {x : Str} {c : Value} {np : Pos} {Q : Value → Shared → Prop} {E : Value → Shared → Prop}, Names X x c → Q c { s' with heap := h3 } → wpAny (model X.prog X.w) (X.A.mark (some (.ref a))) (eval (.Name x np) X.env) Q E { s' with heap := h3 } := fun {x c np Q E} hc q => by
      obtain ⟨hg, hdbg, hm | ⟨hm, hv, hnn⟩⟩ := hc
      · exact ld_glob (X := X.suite a ((a, oe3) :: (X.pn ++ pins))) S3 hg hm q hdbg
      · exact ld_blt (X := X.suite a ((a, oe3) :: (X.pn ++ pins))) S3 hg hm hv q hnn hdbg
    have go : ∀ {hds' : List ExceptHandler} {l' : List Clause}, HdsMix X hds' l' → wMix X.K Wout D l' cls d σ' H' →
        wpAny (model X.prog X.w) X.A (handleBy (.ref a) X.env hds') (SP X pins D) X.xe { s' with heap := h3 } := by
      intro hds' l' hk
      induction hk with
      | nil =>
        intro w
        refine wpAny_handleBy_nil ?_
        obtain ⟨k1, k2, k3, oe, vs, T, oT, ts', he, hz, hd, h1, hr⟩ := id fl3
        unfold PySem.passOn
        refine wpAny_bind (wpAny_field he hd h1 ?_)
        rw [if_neg (show ¬ ((Value.ref T == Value.none) = true) from by simp)]
        have fin : wpAny (model X.prog X.w) X.A (setFlight (.ref a) X.env.frame) (fun _ s4 => wpAny (model X.prog X.w) X.A (throw (.ref a) : Sem Flow) (SP X pins D) X.xe s4) X.xe { s' with heap := h3 } := by
          rw [hf]
          refine HandSPX.setFlight_upZ fl3 fun h4 hh4 up4 => wpAny_throw (tk _ _ ?_)
          exact ⟨a, B, sI, pins, σ', H', cls, d, rfl, J, nb, (up.trans up3).trans up4, .inr (.inr (by rw [hs]; exact hh4)), na, os, ag, w⟩
        first
          | exact wpAny_bind (wpAny_pure (wpAny_bind fin))
          | exact wpAny_bind fin
      | @plain x c ts b₀ suite np pos' hds2 l2 hc hsu r ih =>
        intro w
        obtain ⟨b, hb1, hyes, hno⟩ := w
        refine wpAny_handleBy_cons (codeAny_handlers_test ?_) (by intro q; cases q)
        have LM := PySem.W.exm_one (M := model X.prog X.w) (J3.kIn) LT hb1
        refine nameTest hc (LM.here ?_)
        cases b with
        | true =>
          refine codeAny_handlers_suite ?_
          refine HandSPX.lands_againZ fl3 fun h4 fl4 up4 => ?_
          have J4 : L2.Inv X pins σ' H' { s' with heap := h4 } := J.landed nb fl4.1 ((up.trans up3).trans up4) os ag
          obtain ⟨oe4, vs4, he4, hz4, hd4⟩ := fl4.there
          have S4 := J4.suite he4 hd4 na nL nF
          refine wpAny_mono ((hsu a oe4 cls d (X.pn ++ pins) hz4 ⟨_, hd4⟩).run [] _ _ H' _ S4 (hyes rfl a na)) (fun f s6 hsp => ?_) (fun _ _ z => False.elim z)
          cases f with
          | next =>
            obtain ⟨σ6, H6, S6, q6⟩ := hsp
            exact ⟨_, _, S6.unsuite ok, q6⟩
          | brk =>
            obtain ⟨σ6, H6, S6, q6⟩ := hsp
            exact ⟨_, _, S6.unsuite ok, q6⟩
          | cont =>
            obtain ⟨σ6, H6, S6, q6⟩ := hsp
            exact ⟨_, _, S6.unsuite ok, q6⟩
          | ret u =>
            obtain ⟨v6, σ6, H6, S6, r6, q6⟩ := hsp
            exact ⟨_, _, _, S6.unsuite ok, r6, q6⟩
        | false =>
          show wpAny _ X.A (handleBy (.ref a) X.env hds2) _ _ _
          exact ih (hno rfl)
      | @as_ x n i c ts b₀ suite np pos' hds2 l2 hc hi hln hsu r ih =>
        intro w
        obtain ⟨b, hb1, hyes, hno⟩ := w
        have hloc : Loc X.env.scope n := .inl hln
        refine wpAny_handleBy_cons (codeAny_handlers_test ?_) (by intro q; cases q)
        have LM := PySem.W.exm_one (M := model X.prog X.w) (J3.kIn) LT hb1
        refine nameTest hc (LM.here ?_)
        cases b with
        | true =>
          refine codeAny_handlers_suite_as ?_
          refine HandSPX.lands_againZ fl3 fun h4 fl4 up4 => ?_
          have J4 : L2.Inv X pins σ' H' { s' with heap := h4 } := J.landed nb fl4.1 ((up.trans up3).trans up4) os ag
          obtain ⟨oe4, vs4, he4, hz4, hd4⟩ := fl4.there
          have S4 := J4.suite he4 hd4 na nL nF
          refine store_ok (X := X.suite a ((a, oe4) :: (X.pn ++ pins))) (v := .ref a) S4 hN hi hloc rfl (fun s5 S5 => ?_) (.inr hln)
          refine wpAny_mono ((hsu a oe4 cls d (X.pn ++ pins) hz4 ⟨_, hd4⟩).run [] s5 _ H' _ S5 (hyes rfl a na)) (fun f s6 hsp => ?_) (fun _ _ z => False.elim z)
          have end_ : ∀ {σ6 : L2.St} {H6 : Hp} {Q : Shared → Prop}, L2.Inv (X.suite a ((a, oe4) :: (X.pn ++ pins))) [] σ6 H6 s6 → (∀ s7, L2.Inv X pins (σ6.set i none) H6 s7 → Q s7) →
              wpAny (model X.prog X.w) X.A (do bindName X.env n .none; unbindBehindTheSuite X.env n pos') (fun _ s7 => Q s7) X.xe s6 := fun {σ6 H6 Q} S6 hq => gone_ok (S6.unsuite ok) hN hi hln hq
          cases f with
          | next =>
            obtain ⟨σ6, H6, S6, q6⟩ := hsp
            exact end_ S6 fun s7 J7 => ⟨_, _, J7, q6⟩
          | brk =>
            obtain ⟨σ6, H6, S6, q6⟩ := hsp
            exact end_ S6 fun s7 J7 => ⟨_, _, J7, q6⟩
          | cont =>
            obtain ⟨σ6, H6, S6, q6⟩ := hsp
            exact end_ S6 fun s7 J7 => ⟨_, _, J7, q6⟩
          | ret u =>
            obtain ⟨v6, σ6, H6, S6, r6, q6⟩ := hsp
            exact end_ S6 fun s7 J7 => ⟨_, _, _, J7, r6, q6⟩
        | false =>
          show wpAny _ X.A (handleBy (.ref a) X.env hds2) _ _ _
          exact ih (hno rfl)
    exact go hh w
  · cases f with
    | next =>
      obtain ⟨σ', H', J', q⟩ := hsp
      exact wpAny_execs_nil ⟨σ', H', J'.ofTry ok, q⟩
    | brk =>
      obtain ⟨σ', H', J', q⟩ := hsp
      exact ⟨σ', H', J'.ofTry ok, q⟩
    | cont =>
      obtain ⟨σ', H', J', q⟩ := hsp
      exact ⟨σ', H', J'.ofTry ok, q⟩
    | ret u =>
      obtain ⟨v, σ', H', J', r, q⟩ := hsp
      exact ⟨v, σ', H', J'.ofTry ok, r, q⟩
end
/-- a clause: which classes it takes; its suite; or the field of what it took, returned -/
inductive ClD where
  | plain (sub : Nat → Bool) (d : DenS)
  | field (sub : Nat → Bool) (i : Nat)
def noXS : OutS → OutS
  | .exc _ _ _ _ => .bad
  | r => r
def handleD (fe : FE) (c : Nat) (p : Option D) (ρ : Env) (m : Mem) : List ClD → OutS
  | [] => .exc c p ρ m
  | .plain sub d :: r => if sub c = true then noXS (d fe ρ m) else handleD fe c p ρ m r
  | .field sub i :: r => if sub c = true then (match p with
    | some v => if i < ρ.length then .ret v m else .bad
    | none => .bad) else handleD fe c p ρ m r
def sTry (b : DenS) (cls : List ClD) : DenS := fun fe ρ m => match b fe ρ m with
  | .exc c p ρ' m' => handleD fe c p ρ' m' cls
  | r => r
inductive ClOk (G : Gx) (K : PySem.W.Frag) (fe : FE) : List Clause → List ClD → Prop
  | nil : ClOk G K fe [] []
  | plain {c : Value} {sub : Nat → Bool} {d : DenS} {l : List Clause} {r : List ClD} (hs : ∀ c' C', G.ca c' = some C' → PySem.W.exmOne K (.ref C') c = some (sub c')) (t : ClOk G K fe l r) :
      ClOk G K fe ((c, none, fun _ _ _ => tS G noW fe fun fe ρ m => noXS (d fe ρ m)) :: l) (.plain sub d :: r)
  | field {c : Value} {sub : Nat → Bool} {i k : Nat} {C : Addr} {l : List Clause} {r : List ClD} (hs : ∀ c' C', G.ca c' = some C' → PySem.W.exmOne K (.ref C') c = some (sub c')) (hk : ∀ c', sub c' = true → c' = k) (hC : G.ca k = some C) (t : ClOk G K fe l r) :
      ClOk G K fe ((c, some i, fun a cls d => tRet (tXf a cls d C (G.xf k) (tVar i))) :: l) (.field sub i :: r)
theorem wMix_of {G : Gx} {K : PySem.W.Frag} {fe : FE} {W : WX} {D : Ends} {H : Hp} {β : List Pl} {m : Mem} {σ : L2.St} {ρ : Env} {c : Nat} {p : Option Mn.D} {cls : Value} {dd : Option Addr} (rp : Rp G H β m) (rs : RS G H β σ ρ) (rx : RX G H β cls dd c p) :
    ∀ {l : List Clause} {r : List ClD}, ClOk G K fe l r → GoodS G W D H β (handleD fe c p ρ m r) → wMix K W D l cls dd σ H
  | _, _, .nil, g => g cls dd σ β H Ext.refl rp rs rx
  | _, _, .plain (sub := sub) (d := ds) hs t, g => by
    obtain ⟨C, rfl, hC, _⟩ := id rx
    refine ⟨sub c, hs c C hC, fun hb a ha => ?_, fun hb => ?_⟩
    · simp only [handleD, if_pos hb] at g
      refine ⟨β, m, ρ, rp, rs, ?_⟩
      cases e : ds fe ρ m <;> simp only [e, noXS] at g ⊢ <;> first | exact g | exact g.elim
    · simp only [handleD, hb, Bool.false_eq_true, if_false] at g
      exact wMix_of rp rs rx t g
  | _, _, .field (sub := sub) (i := i) hs hk hC t, g => by
    obtain ⟨C', rfl, hC', hp⟩ := id rx
    refine ⟨sub c, hs c C' hC', fun hb a ha => ?_, fun hb => ?_⟩
    · simp only [handleD, if_pos hb] at g
      obtain rfl := hk c hb
      rw [hC] at hC'
      cases hC'
      cases p with
      | none => exact g.elim
      | some v =>
        simp only at g hp
        split at g
        · rename_i hi
          obtain ⟨x, u, rfl, hx, ru⟩ := hp
          refine ⟨.ref a, List.getElem?_set_self (by rw [rs.len]; exact hi), rfl, rfl, x, _, u, rfl, hx, by simp [List.lookup], ?_⟩
          exact g u β H Ext.refl rp ru
        · exact g.elim
    · simp only [handleD, hb, Bool.false_eq_true, if_false] at g
      exact wMix_of rp rs rx t g
section
variable {G : Gx} {X : Cx} {fe : FE} {body : List Stmt} {h₀ : ExceptHandler} {hds : List ExceptHandler} {l : List Clause} {r : List ClD} {pos : Pos} {b : DenS} {W : WX}
theorem stry_ok (hs : X.stack = X.env :: X.outer) (hf : X.env.frame = some X.env.locals) (hN : X.N.Nodup) (tk : Takes X W)
    (hb : ∀ (W : WX) (pn : List (Addr × Obj)) (xe : Value → Shared → Prop), Takes (X.tr pn xe) W → PassesOwn (model X.prog X.w) X.A X.env xe → PSs (X.tr pn xe) body (tS G W fe b))
    (hh : HdsMix X (h₀ :: hds) l) (hc : ClOk G X.K fe l r) : PS X (.Try body (h₀ :: hds) [] [] pos) (tS G W fe (sTry b r)) := PS.imp (ps_try_mix hs hf hN tk hb hh) fun D σ H h => by
  obtain ⟨β, m, ρ, rp, rs, g⟩ := h
  refine ⟨β, m, ρ, rp, rs, ?_⟩
  unfold sTry at g
  cases e : b fe ρ m with
  | exc c p ρ' m' =>
    rw [e] at g
    exact fun cls dd σ' β' H' x rp' rs' rx => wMix_of rp' rs' rx hc (GoodS.ext g x)
  | next ρ' m' => rw [e] at g; exact g
  | brk ρ' m' => rw [e] at g; exact g
  | cont ρ' m' => rw [e] at g; exact g
  | ret v m' => rw [e] at g; exact g
  | bad => rw [e] at g; exact g
end
section
variable {G : Gx} {X : Cx} {fe : FE} {x : Str} {c : Value} {sub : Nat → Bool} {d : DenS} {b₀ : Stmt} {suite : List Stmt} {np pos' : Pos}
/-- the suite of a clause without a name -/
theorem suite_ok {X' : Cx} {sts : List Stmt} {ds : DenS} (h : PSs X' sts (tS G noW fe ds)) : PSs X' sts (tS G noW fe fun fe ρ m => noXS (ds fe ρ m)) := PSs.imp h fun D σ H hh => by
  obtain ⟨β, m, ρ, rp, rs, g⟩ := hh
  refine ⟨β, m, ρ, rp, rs, ?_⟩
  cases e : ds fe ρ m <;> simp only [e, noXS] at g ⊢ <;> first | exact g | exact g.elim
/-- return e.f, e what the clause took -/
theorem field_ok {C a : Addr} {oe : Obj} {cls : Value} {dd : Option Addr} {pn : List (Addr × Obj)} {n fld : Str} {i : Nat} {q1 q2 pos : Pos} (T : XfC X.K C) (hno : PySem.W.findIn X.K (.ref C) fld = some none) (hz : Zc cls dd oe) (hf : ∃ vs, oe.data = .fields vs)
    (hi : X.N[i]? = some n) (hv : Vis X.env.scope n) (hd : (n == ("__debug__" : Str)) = false) (hcd : (n == ("__classdict__" : Str)) = false) (hb : attributeBase (.Name n q1) fld X.env (eval (.Name n q1) X.env) = eval (.Name n q1) X.env) :
    PSs (X.suite a ((a, oe) :: pn)) [.Return (some (.Attribute (.Name n q1) fld q2)) pos] (tRet (tXf a cls dd C fld (tVar i))) :=
  pss_one (ps_ret (pe_xf T hno hz hf (pe_var hi hv hd hcd) hb))
end
end Mn
set_option Elab.async false
set_option linter.all false
set_option maxRecDepth 100000
set_option maxHeartbeats 1000000
/-! Mn18: the words: each rule with what it wants of the text found by itself. -/
namespace Mn
open PySem L2 PySem.Spec PyProof.Rows
/-- what the text names: defs, built-ins, constants; classes of errors with their subclass table, field names -/
structure Tx where
  fns : List Str
  bls : List Str
  cns : List (Str × D)
  exs : List (Str × Option Str)
  sub : List (List Nat)
/-- whether c' is one of the class c -/
def Tx.of (T : Tx) (c c' : Nat) : Bool := (T.sub.getD c []).contains c'
mutual
/-- a constant of the text -/
def CD (K : PySem.W.Frag) : Value → D → Prop
  | u, .int i => ∃ t, u = .int i t
  | u, .str z => ∃ t, u = .str z t
  | u, .bl b => u = .bool b
  | u, .non => u = .none
  | u, .tup ds => ∃ a o its n, u = .ref a ∧ K.lookup a = some o ∧ o.cls = .type "tuple" ∧ o.dict = none ∧ o.data = .seq its n ∧ its.size ≤ sizeLine ∧ CDs K its.toList ds
  | u, .seq ds => ∃ a o its n, u = .ref a ∧ K.lookup a = some o ∧ o.cls = .type "list" ∧ o.dict = none ∧ o.data = .seq its n ∧ its.size ≤ sizeLine ∧ CDs K its.toList ds
  | _, _ => False
def CDs (K : PySem.W.Frag) : List Value → List D → Prop
  | us, [] => us = []
  | us, d :: ds => ∃ u r, us = u :: r ∧ CD K u d ∧ CDs K r ds
end
/-- what the written part says of an error's class -/
def ExOk (G : Gx) (K : PySem.W.Frag) (mg : Str → Option Value) (c : Nat) (x : Str) (fld : Option Str) : Prop := ∃ C, G.ca c = some C ∧ mg x = some (.ref C) ∧ PySem.W.keepIn K (.ref C) = true ∧ PySem.W.subIn K (.ref C) (.type "BaseException") = some true ∧ PySem.W.typeIn K (.ref C) = some (.type "type") ∧
  (match fld with
  | none => PySem.W.excIn K C [.type "ValueError", .type "Exception", .type "BaseException", .type "object"] "ValueError.__new__" = true
  | some f => G.xf c = f ∧ OexC K C ∧ XfC K C ∧ PySem.W.findIn K (.ref C) f = some none ∧ ∃ fI fd, PySem.W.findIn K (.ref C) "__init__" = some (some (.ref fI)) ∧ PySem.W.typeIn K (.ref fI) = some (.type "function") ∧ Binds K fd ["self", "word"] [] ∧
    ∀ (P : Program) (w : World) (mg : Str → Option Value) (base : Heap), FnOk P w K mg base (L2.CX P w) 1 fI fd ["self", "word"] (spInit K f))
structure TxOk (G : Gx) (K : PySem.W.Frag) (mg : Str → Option Value) (T : Tx) : Prop where
  fn : ∀ (j : Nat) (x : Str), T.fns[j]? = some x → ∃ f, G.fa j = some f ∧ mg x = some (.ref f)
  bl : ∀ (j : Nat) (x : Str), T.bls[j]? = some x → mg x = none
  cn : ∀ (i : Nat) (x : Str) (d : D), T.cns[i]? = some (x, d) → ∃ u, mg x = some u ∧ CD K u d
  ex : ∀ (c : Nat) (x : Str) (f : Option Str), T.exs[c]? = some (x, f) → ExOk G K mg c x f
  exm : ∀ c C c' C', G.ca c = some C → G.ca c' = some C' → PySem.W.exmOne K (.ref C') (.ref C) = some (T.of c c')
/-- what holds in every place of a def's text -/
structure Ok (T : Tx) (G : Gx) (X : Cx) (W : WX) (fe : FE) (k : Nat) : Prop where
  on : On G X
  calm : X.calm = true
  room : Room (k + 2) X.A
  tk : Takes X W
  F : Fns G X.prog X.w X.K X.mg X.base (k + 2) fe
  tx : TxOk G X.K X.mg T
  nd : X.N.Nodup
/-- a statement's place -/
structure OkS (T : Tx) (G : Gx) (X : Cx) (W : WX) (fe : FE) (k : Nat) : Prop extends Ok T G X W fe k where
  hs : X.stack = X.env :: X.outer
  hf : X.env.frame = some X.env.locals
  pass : PassesOwn (model X.prog X.w) X.A X.env X.xe
section
variable {T : Tx} {G : Gx} {X : Cx} {W : WX} {fe : FE} {k : Nat}
theorem Ok.u65 (h : Ok T G X W fe k) : X.A.units + 65 < cLine := by have := h.room.un; omega
theorem Ok.u64 (h : Ok T G X W fe k) : X.A.units + 64 < cLine := by have := h.room.un; omega
theorem Ok.blk (h : Ok T G X W fe k) (s : Shared) (H : Hp) (sc : Scope) (env : PySem.Env) (fp : List Addr) : Ok T G (X.blk s H sc env fp) noW fe k :=
  ⟨⟨h.on.P, h.on.w, h.on.K⟩, h.calm, h.room, takes_none5, h.F, h.tx, h.nd⟩
theorem OkS.tr (h : OkS T G X W fe k) {W' : WX} {pn : List (Addr × Obj)} {xe : Value → Shared → Prop} (tk : Takes (X.tr pn xe) W') (ps : PassesOwn (model X.prog X.w) X.A X.env xe) : OkS T G (X.tr pn xe) W' fe k :=
  ⟨⟨⟨h.on.P, h.on.w, h.on.K⟩, h.calm, h.room, tk, h.F, h.tx, h.nd⟩, h.hs, h.hf, ps⟩
theorem Ok.body {P : Program} {w : World} {K : PySem.W.Frag} {mg : Str → Option Value} {base : Heap} {N : List Str} {q : Str} {sc : Scope} {f : Addr} {cdv : Value} {A : Around} {outer : List PySem.Env} {s : Shared} {H : Hp} {E : XK}
    (hG : G.P = P ∧ G.w = w ∧ G.K = K) (hr : Room (k + 2) (A.deeper (envOfC q sc s.heap.objs.size f cdv))) (F : Fns G P w K mg base (k + 2) fe) (tx : TxOk G K mg T) (nd : N.Nodup) :
    OkS T G (cxOf (L2.CX P w) P w K mg base N q sc f cdv A outer s H E) (fun c d _ H => E c d H) fe k :=
  ⟨⟨⟨hG.1.symm, hG.2.1.symm, hG.2.2.symm⟩, rfl, hr, takes_of rfl rfl rfl rfl, F, tx, nd⟩, rfl, rfl, passes_of rfl⟩
mutual
theorem CD.rv : ∀ (d : D) (u : Value), CD G.K u d → ∃ v, RelV v u ∧ ∀ H β, RV G H β v d
  | .int i, u, h => by
    simp only [CD] at h
    obtain ⟨t, rfl⟩ := h
    exact ⟨.int i, ⟨_, rfl⟩, fun _ _ => by simp [RV]⟩
  | .str i, u, h => by
    simp only [CD] at h
    obtain ⟨t, rfl⟩ := h
    exact ⟨.str i, ⟨_, rfl⟩, fun _ _ => by simp [RV]⟩
  | .bl i, u, h => by
    simp only [CD] at h
    subst h
    exact ⟨.bl i, rfl, fun _ _ => by simp [RV]⟩
  | .non, u, h => by
    simp only [CD] at h
    subst h
    exact ⟨.non, rfl, fun _ _ => by simp [RV]⟩
  | .tup ds, u, h => by
    simp only [CD] at h
    obtain ⟨a, o, its, n, rfl, h1, h2, h3, h4, h5, l⟩ := h
    obtain ⟨vs, r, q⟩ := CDs.rv ds _ l
    exact ⟨.ref a, rfl, fun H β => by simp only [RV]; exact ⟨a, vs, rfl, .inr ⟨_, _, _, h1, h2, h3, h4, h5, r⟩, q H β⟩⟩
  | .seq ds, u, h => by
    simp only [CD] at h
    obtain ⟨a, o, its, n, rfl, h1, h2, h3, h4, h5, l⟩ := h
    obtain ⟨vs, r, q⟩ := CDs.rv ds _ l
    exact ⟨.ref a, rfl, fun H β => by simp only [RV]; exact ⟨a, vs, rfl, .inr ⟨_, _, _, h1, h2, h3, h4, h5, r⟩, q H β⟩⟩
  | .loc _, u, h => by simp [CD] at h
  | .fn _, u, h => by simp [CD] at h
theorem CDs.rv : ∀ (ds : List D) (us : List Value), CDs G.K us ds → ∃ vs, Vals vs us ∧ ∀ H β, RVs G H β vs ds
  | [], us, h => by
    simp only [CDs] at h
    subst h
    exact ⟨[], .nil, fun _ _ => RVs.nil⟩
  | d :: ds, us, h => by
    simp only [CDs] at h
    obtain ⟨u, r, rfl, h1, h2⟩ := h
    obtain ⟨v, r1, q⟩ := CD.rv d u h1
    obtain ⟨vs, r2, q2⟩ := CDs.rv ds r h2
    exact ⟨v :: vs, .cons r1 r2, fun H β => RVs.cons (q H β) (q2 H β)⟩
end
end
/-- a comparison as a test -/
def tB (a : Den) : DenT := fun fe ρ m => (a fe ρ m).bind fun x m1 => match x with
  | .bl b => .ok b m1
  | _ => .bad
/-! ### expressions -/
section
variable {T : Tx} {G : Gx} {X : Cx} {W : WX} {fe : FE} {k : Nat} {a b c e o : Expr} {es rest : List Expr} {da db dc : Den} {dA : DenA} {dt du : DenT} {x : Str} {p p2 q q2 tp pos apos : Pos} {f f' : Op2}
theorem tB_red {σ : L2.St} {H : Hp} {Q : Bool → Hp → Prop} (h : tT G W fe (tB da) σ H Q) : tE G W fe da σ H fun x H' => ∃ k, x = .bl k ∧ Q k H' := by
  obtain ⟨β, m, ρ, rp, rs, g⟩ := h
  refine ⟨β, m, ρ, rp, rs, (GoodO.mono (GoodO.bind g) fun x m1 H1 β1 e1 rp1 g1 u ru => ?_).e⟩
  cases x with
  | bl k =>
    simp only [RV] at ru; subst ru
    exact ⟨k, rfl, g1 β1 H1 Ext.refl rp1⟩
  | _ => exact False.elim g1
theorem tcmp_ok {op : CmpOp} (ho : OpR X (compareOp op) (rO2 G f)) (ha : PE X a (tE G W fe da)) (hb : PE X b (tE G W fe db)) (hm : behindInMarks op b = false) : PT X (.Compare a [op] [b] pos) (tT G W fe (tB (xBin f da db))) :=
  PT.imp (pt_cmpR ho ha hb hm) fun _ _ _ h => bin_red (fun _ _ _ _ x => x) (tB_red h)
theorem chain_red {σ : L2.St} {H : Hp} {Q : VK} (h : tE G W fe (xChain f f' da db dc) σ H Q) : tChain (rO2 G f) (rO2 G f') (tE G W fe da) (tE G W fe db) (tE G W fe dc) σ H Q := by
  obtain ⟨β, m, ρ, rp, rs, g⟩ := h
  refine ⟨β, m, ρ, rp, rs, (GoodO.mono (GoodO.bind (GoodE.iff.mp g)) fun x m1 H1 β1 e1 rp1 g1 u ru => ?_).e⟩
  refine ⟨β1, m1, ρ, rp1, rs.ext rp e1, (GoodO.mono (GoodO.bind g1) fun y m2 H2 β2 e2 rp2 g2 w rw' => ?_).e⟩
  refine ⟨β2, m2, x, y, rp2, RV.mono (e2.tl rp1) e2.bl _ _ ru, rw', ?_⟩
  have g3 := GoodO.bind g2
  cases e : f x y m2 with
  | none => rw [e] at g3; exact g3
  | some p =>
    rw [e] at g3
    obtain ⟨z, m3⟩ := p
    intro uz β3 H3 e3 rp3 rz
    have g4 := g3 β3 H3 e3 rp3
    cases z with
    | bl k =>
      simp only [RV] at rz; subst rz
      cases k with
      | true =>
        refine ⟨true, rfl, β3, m3, ρ, rp3, (rs.ext rp e1 |>.ext rp1 e2).ext rp2 e3, (GoodO.mono (GoodO.bind g4) fun w4 m4 H4 β4 e4 rp4 g5 uw ruw => ?_).e⟩
        exact ⟨β4, m4, y, w4, rp4, RV.mono (e4.tl rp3) e4.bl _ _ (RV.mono (e3.tl rp2) e3.bl _ _ rw'), ruw, GoodE.ofO (g5.e)⟩
      | false => exact ⟨false, rfl, Post.bl (GoodE.iff.mpr g4) rp3⟩
    | _ => exact False.elim g4
theorem tchain_ok {op op' : CmpOp} (ho : OpR X (compareOp op) (rO2 G f)) (ho' : OpR X (compareOp op') (rO2 G f')) (ha : PE X a (tE G W fe da)) (hb : PE X b (tE G W fe db)) (hc : PE X c (tE G W fe dc)) (hm : lastMarks [op, op'] [b, c] = false) :
    PT X (.Compare a [op, op'] [b, c] pos) (tT G W fe (tB (xChain f f' da db dc))) := PT.imp (pt_chain ho ho' ha hb hc hm) fun _ _ _ h => chain_red (tB_red h)
namespace Ok
variable (h : Ok T G X W fe k)
include h
omit h in
theorem v (h : Ok T G X W fe k) (i : Nat) (hN : X.N[i]? = some x := by rfl) (hv : Vis X.env.scope x := by first | exact Or.inl rfl | exact Or.inr (Or.inl rfl) | exact Or.inr (Or.inr rfl)) (hd : (x == ("__debug__" : Str)) = false := by decide)
    (hcd : (x == ("__classdict__" : Str)) = false := by decide) : PE X (.Name x pos) (tE G W fe (xVar i)) := pv_ok (pe_var hN hv hd hcd)
theorem int {n : Int} {j : Nat} : PE X (.Constant (.int n) j pos) (tE G W fe (xLit (.int n))) := lit_ok (fun _ _ => by simp [RV]) pe_int
theorem str {z : Str} {j : Nat} : PE X (.Constant (.str z) j pos) (tE G W fe (xLit (.str z))) := lit_ok (fun _ _ => by simp [RV]) pe_str
theorem bo {z : Bool} {j : Nat} : PE X (.Constant (.bool z) j pos) (tE G W fe (xLit (.bl z))) := lit_ok (fun _ _ => by simp [RV]) pe_bl
theorem non {j : Nat} : PE X (.Constant .none j pos) (tE G W fe (xLit .non)) := lit_ok (fun _ _ => by simp [RV]) pe_non
/-- a constant of the text -/
theorem cn (j : Nat) {d : D} (hj : T.cns[j]? = some (x, d) := by rfl) (hg : Gl X x := by rfl) (hd : (x == ("__debug__" : Str)) = false := by decide) : PE X (.Name x pos) (tE G W fe (xLit d)) := by
  obtain ⟨u, hm, hc⟩ := h.tx.cn j x d hj
  have hc' : CD G.K u d := h.on.K ▸ hc
  obtain ⟨v, r, q⟩ := CD.rv d u hc'
  exact lit_ok q (pe_glob hg hm r hd)
/-- a def as a value -/
theorem fv (j : Nat) (hj : T.fns[j]? = some x := by rfl) (hg : Gl X x := by rfl) (hd : (x == ("__debug__" : Str)) = false := by decide) : PE X (.Name x pos) (tE G W fe (xLit (.fn j))) := by
  obtain ⟨f, hf, hm⟩ := h.tx.fn j x hj
  exact lit_ok (fun _ _ => by simp [RV, hf]) (pe_glob (v := .ref f) hg hm rfl hd)
theorem add (ha : PE X a (tE G W fe da)) (hb : PE X b (tE G W fe db)) : PE X (.BinOp a .Add b pos) (tE G W fe (xBin opAdd da db)) := xbin_ok (opAdd_ok h.on) ha hb
theorem sub (ha : PE X a (tE G W fe da)) (hb : PE X b (tE G W fe db)) : PE X (.BinOp a .Sub b pos) (tE G W fe (xBin opSub da db)) := xbin_ok (opSub_ok h.on) ha hb
theorem mul (ha : PE X a (tE G W fe da)) (hb : PE X b (tE G W fe db)) : PE X (.BinOp a .Mult b pos) (tE G W fe (xBin opMul da db)) := xbin_ok (opMul_ok h.on) ha hb
theorem fdiv (ha : PE X a (tE G W fe da)) (hb : PE X b (tE G W fe db)) : PE X (.BinOp a .FloorDiv b pos) (tE G W fe (xBin opFdiv da db)) := xbin_ok (opFdiv_ok h.on) ha hb
theorem mod (ha : PE X a (tE G W fe da)) (hb : PE X b (tE G W fe db)) : PE X (.BinOp a .Mod b pos) (tE G W fe (xBin opMod da db)) := xbin_ok (opMod_ok h.on) ha hb
theorem pow (ha : PE X a (tE G W fe da)) (hb : PE X b (tE G W fe db)) : PE X (.BinOp a .Pow b pos) (tE G W fe (xBin opPow da db)) := xbin_ok (opPow_ok h.on) ha hb
theorem eq (ha : PE X a (tE G W fe da)) (hb : PE X b (tE G W fe db)) : PE X (.Compare a [.Eq] [b] pos) (tE G W fe (xBin opEq da db)) := xcmp_ok (opEq_ok h.on h.u64) ha hb (nomark _)
theorem teq (ha : PE X a (tE G W fe da)) (hb : PE X b (tE G W fe db)) : PT X (.Compare a [.Eq] [b] pos) (tT G W fe (tB (xBin opEq da db))) := tcmp_ok (opEq_ok h.on h.u64) ha hb (nomark _)
theorem ne (ha : PE X a (tE G W fe da)) (hb : PE X b (tE G W fe db)) : PE X (.Compare a [.NotEq] [b] pos) (tE G W fe (xBin opNe da db)) := xcmp_ok (opNe_ok h.on h.u64) ha hb (nomark _)
theorem tne (ha : PE X a (tE G W fe da)) (hb : PE X b (tE G W fe db)) : PT X (.Compare a [.NotEq] [b] pos) (tT G W fe (tB (xBin opNe da db))) := tcmp_ok (opNe_ok h.on h.u64) ha hb (nomark _)
theorem lt (ha : PE X a (tE G W fe da)) (hb : PE X b (tE G W fe db)) : PE X (.Compare a [.Lt] [b] pos) (tE G W fe (xBin opLt da db)) := xcmp_ok (opLt_ok h.on h.u64) ha hb (nomark _)
theorem tlt (ha : PE X a (tE G W fe da)) (hb : PE X b (tE G W fe db)) : PT X (.Compare a [.Lt] [b] pos) (tT G W fe (tB (xBin opLt da db))) := tcmp_ok (opLt_ok h.on h.u64) ha hb (nomark _)
theorem le (ha : PE X a (tE G W fe da)) (hb : PE X b (tE G W fe db)) : PE X (.Compare a [.LtE] [b] pos) (tE G W fe (xBin opLe da db)) := xcmp_ok (opLe_ok h.on) ha hb (nomark _)
theorem tle (ha : PE X a (tE G W fe da)) (hb : PE X b (tE G W fe db)) : PT X (.Compare a [.LtE] [b] pos) (tT G W fe (tB (xBin opLe da db))) := tcmp_ok (opLe_ok h.on) ha hb (nomark _)
theorem gt (ha : PE X a (tE G W fe da)) (hb : PE X b (tE G W fe db)) : PE X (.Compare a [.Gt] [b] pos) (tE G W fe (xBin opGt da db)) := xcmp_ok (opGt_ok h.on) ha hb (nomark _)
theorem tgt (ha : PE X a (tE G W fe da)) (hb : PE X b (tE G W fe db)) : PT X (.Compare a [.Gt] [b] pos) (tT G W fe (tB (xBin opGt da db))) := tcmp_ok (opGt_ok h.on) ha hb (nomark _)
theorem ge (ha : PE X a (tE G W fe da)) (hb : PE X b (tE G W fe db)) : PE X (.Compare a [.GtE] [b] pos) (tE G W fe (xBin opGe da db)) := xcmp_ok (opGe_ok h.on) ha hb (nomark _)
theorem tge (ha : PE X a (tE G W fe da)) (hb : PE X b (tE G W fe db)) : PT X (.Compare a [.GtE] [b] pos) (tT G W fe (tB (xBin opGe da db))) := tcmp_ok (opGe_ok h.on) ha hb (nomark _)
theorem is_ (ha : PE X a (tE G W fe da)) (hb : PE X b (tE G W fe db)) : PE X (.Compare a [.Is] [b] pos) (tE G W fe (xBin opIs da db)) := xcmp_ok (opIs_ok h.on) ha hb (nomark _)
theorem tis_ (ha : PE X a (tE G W fe da)) (hb : PE X b (tE G W fe db)) : PT X (.Compare a [.Is] [b] pos) (tT G W fe (tB (xBin opIs da db))) := tcmp_ok (opIs_ok h.on) ha hb (nomark _)
theorem isn (ha : PE X a (tE G W fe da)) (hb : PE X b (tE G W fe db)) : PE X (.Compare a [.IsNot] [b] pos) (tE G W fe (xBin opIsNot da db)) := xcmp_ok (opIsNot_ok h.on) ha hb (nomark _)
theorem tisn (ha : PE X a (tE G W fe da)) (hb : PE X b (tE G W fe db)) : PT X (.Compare a [.IsNot] [b] pos) (tT G W fe (tB (xBin opIsNot da db))) := tcmp_ok (opIsNot_ok h.on) ha hb (nomark _)
theorem in_ (ha : PE X a (tE G W fe da)) (hb : PE X b (tE G W fe db)) (hm : behindInMarks .In b = false := by rfl) : PE X (.Compare a [.In] [b] pos) (tE G W fe (xBin opIn da db)) := xcmp_ok (opIn_ok h.on h.u65) ha hb hm
theorem tin_ (ha : PE X a (tE G W fe da)) (hb : PE X b (tE G W fe db)) (hm : behindInMarks .In b = false := by rfl) : PT X (.Compare a [.In] [b] pos) (tT G W fe (tB (xBin opIn da db))) := tcmp_ok (opIn_ok h.on h.u65) ha hb hm
theorem nin (ha : PE X a (tE G W fe da)) (hb : PE X b (tE G W fe db)) (hm : behindInMarks .NotIn b = false := by rfl) : PE X (.Compare a [.NotIn] [b] pos) (tE G W fe (xBin opNotIn da db)) := xcmp_ok (opNotIn_ok h.on h.u65) ha hb hm
theorem tnin (ha : PE X a (tE G W fe da)) (hb : PE X b (tE G W fe db)) (hm : behindInMarks .NotIn b = false := by rfl) : PT X (.Compare a [.NotIn] [b] pos) (tT G W fe (tB (xBin opNotIn da db))) := tcmp_ok (opNotIn_ok h.on h.u65) ha hb hm
theorem oEq : OpR X (compareOp .Eq) (rO2 G opEq) := opEq_ok h.on h.u64
theorem oNotEq : OpR X (compareOp .NotEq) (rO2 G opNe) := opNe_ok h.on h.u64
theorem oLt : OpR X (compareOp .Lt) (rO2 G opLt) := opLt_ok h.on h.u64
theorem oLtE : OpR X (compareOp .LtE) (rO2 G opLe) := opLe_ok h.on
theorem oGt : OpR X (compareOp .Gt) (rO2 G opGt) := opGt_ok h.on
theorem oGtE : OpR X (compareOp .GtE) (rO2 G opGe) := opGe_ok h.on
theorem chain {op op' : CmpOp} (ho : OpR X (compareOp op) (rO2 G f)) (ho' : OpR X (compareOp op') (rO2 G f')) (ha : PE X a (tE G W fe da)) (hb : PE X b (tE G W fe db)) (hc : PE X c (tE G W fe dc)) (hm : lastMarks [op, op'] [b, c] = false := by with_unfolding_all rfl) :
    PE X (.Compare a [op, op'] [b, c] pos) (tE G W fe (xChain f f' da db dc)) := xchain_ok ho ho' ha hb hc hm
theorem tchain {op op' : CmpOp} (ho : OpR X (compareOp op) (rO2 G f)) (ho' : OpR X (compareOp op') (rO2 G f')) (ha : PE X a (tE G W fe da)) (hb : PE X b (tE G W fe db)) (hc : PE X c (tE G W fe dc)) (hm : lastMarks [op, op'] [b, c] = false := by with_unfolding_all rfl) :
    PT X (.Compare a [op, op'] [b, c] pos) (tT G W fe (tB (xChain f f' da db dc))) := tchain_ok ho ho' ha hb hc hm
theorem neg (ha : PE X a (tE G W fe da)) : PE X (.UnaryOp .USub a pos) (tE G W fe (xNeg da)) := xneg_ok ha
theorem tv (ha : PE X a (tE G W fe da)) (he : ∀ whole, PySem.isTrue a X.env whole = (do let v ← whole; standAt a.pos; holding [v] (truthy v)) := by intro _; rfl) : PT X a (tT G W fe (tVal da)) := tval_ok h.on ha he
theorem tn (ha : PT X a (tT G W fe dt)) : PT X (.UnaryOp .Not a pos) (tT G W fe (tNt dt)) := tnt_ok ha
theorem ix (ha : PE X a (tE G W fe da)) (hb : PE X b (tE G W fe db)) (hs : PlainIx b := by intro _ _; rfl) : PE X (.Subscript a b pos) (tE G W fe (xBin opIx da db)) := xix_ok h.on h.u64 ha hb hs
theorem sl {lo hi : Option Expr} {dl dh : DenO} (ha : PE X a (tE G W fe da)) (hl : PO X lo (tOd G W fe dl)) (hh : PO X hi (tOd G W fe dh)) : PE X (.Subscript a (.Slice lo hi none p2) pos) (tE G W fe (xSl da dl dh)) := xsl_ok h.on ha hl hh
theorem ac (ha : PE X a (tE G W fe da)) (hr : PA X es (tA G W fe dA)) (hs : starEach (a :: es) X.env = (false, eval a X.env) :: starEach es X.env := by rfl) : PA X (a :: es) (tA G W fe (aCons da dA)) := acons_ok ha hr hs
theorem bi {id : String} {F : OpN} (hc : CallR X (.builtin id) (rON G F)) (j : Nat) (ha : PA X (e :: es) (tA G W fe dA)) (hv : bootBuiltins x = some (.builtin id)) (hj : T.bls[j]? = some x := by rfl) (hg : Gl X x := by rfl) (hn : x ≠ "__name__" := by decide) (hdb : (x == ("__debug__" : Str)) = false := by decide)
    (he : starEach (e :: es) X.env = (false, eval e X.env) :: starEach es X.env := by rfl) (hpl : (backTo pos (starEach es X.env)).any (·.1) = false := by rfl) : PE X (.Call (.Name x p) (e :: es) [] pos) (tE G W fe (xCallF F dA)) := xcallB_ok hc hg (h.tx.bl j x hj) hv ha hn hdb he hpl
theorem ty {id : String} {F : OpN} (hc : CallR X (.type id) (rON G F)) (j : Nat) (ha : PA X (e :: es) (tA G W fe dA)) (hv : bootBuiltins x = some (.type id)) (hj : T.bls[j]? = some x := by rfl) (hg : Gl X x := by rfl) (hn : x ≠ "__name__" := by decide) (hdb : (x == ("__debug__" : Str)) = false := by decide)
    (he : starEach (e :: es) X.env = (false, eval e X.env) :: starEach es X.env := by rfl) (hpl : (backTo pos (starEach es X.env)).any (·.1) = false := by rfl) : PE X (.Call (.Name x p) (e :: es) [] pos) (tE G W fe (xCallF F dA)) := xcallTy_ok hc hg (h.tx.bl j x hj) hv ha hn hdb he hpl
theorem call (j : Nat) (ha : PA X (e :: es) (tA G W fe dA)) (hj : T.fns[j]? = some x := by rfl) (hg : Gl X x := by rfl) (hdb : (x == ("__debug__" : Str)) = false := by decide)
    (he : starEach (e :: es) X.env = (false, eval e X.env) :: starEach es X.env := by rfl) (hpl : (backTo pos (starEach es X.env)).any (·.1) = false := by rfl) : PE X (.Call (.Name x p) (e :: es) [] pos) (tE G W fe (xCall j dA)) := by
  obtain ⟨f, hf, hm⟩ := h.tx.fn j x hj
  exact xcall_ok h.F h.tk h.room hf hg hm ha hdb he hpl
theorem call0 (j : Nat) (hj : T.fns[j]? = some x := by rfl) (hg : Gl X x := by rfl) (hdb : (x == ("__debug__" : Str)) = false := by decide) : PE X (.Call (.Name x p) [] [] pos) (tE G W fe (xCall j aNil)) := by
  obtain ⟨f, hf, hm⟩ := h.tx.fn j x hj
  exact xcall0_ok h.F h.tk h.room hf hg hm hdb
theorem callv (i : Nat) (ha : PA X (e :: es) (tA G W fe dA)) (hN : X.N[i]? = some x := by rfl) (hv : Vis X.env.scope x := by first | exact Or.inl rfl | exact Or.inr (Or.inl rfl) | exact Or.inr (Or.inr rfl)) (hdb : (x == ("__debug__" : Str)) = false := by decide) (hcd : (x == ("__classdict__" : Str)) = false := by decide)
    (he : starEach (e :: es) X.env = (false, eval e X.env) :: starEach es X.env := by rfl) (hpl : (backTo pos (starEach es X.env)).any (·.1) = false := by rfl) : PE X (.Call (.Name x p) (e :: es) [] pos) (tE G W fe (xCallV i dA)) := xcallV_ok h.F h.tk h.room hN hv ha hdb hcd he hpl
theorem isi {Ty : String} (j0 j : Nat) (ha : PE X e (tE G W fe da)) (hvT : bootBuiltins x = some (.type Ty)) (hT : Ty ∈ tys.tail := by decide) (hj0 : T.bls[j0]? = some "isinstance" := by rfl) (hj : T.bls[j]? = some x := by rfl) (hg : Gl X "isinstance" := by rfl) (hgT : Gl X x := by rfl)
    (hnT : x ≠ "__name__" := by decide) (hdT : (x == ("__debug__" : Str)) = false := by decide) (hs : starEach [e, .Name x q] X.env = (false, eval e X.env) :: starEach [.Name x q] X.env := by rfl) :
    PE X (.Call (.Name "isinstance" p) [e, .Name x q] [] pos) (tE G W fe (xIsi [Ty] da)) := xisi1_ok h.on hT ha hg (h.tx.bl j0 _ hj0) boot_isinstance (by decide) (by decide) hgT (h.tx.bl j _ hj) hvT hnT hdT hs rfl rfl
theorem mt1 {name : Str} {T1 : String} {F1 : OpM} (m1 : MtD G X name T1 F1) (ho : PE X o (tE G W fe da)) (ha : PA X (e :: es) (tA G W fe dA)) (h1 : T1 ≠ "" := by decide) (hbase : attributeBase o name X.env (eval o X.env) = eval o X.env := by rfl)
    (hfew : ((backTo pos (starEach (e :: es) X.env)).all (fun x => !x.1) && (backToKw pos (keywordEach [] X.env)).all (fun x => x.1.isSome)
      && decide ((e :: es).length + ([] : List Keyword).length + (if ([] : List Keyword).isEmpty then 0 else 1) < 30)) = true := by rfl)
    (hline : (apos.endLine == pos.line) = true := by rfl) (hs : starEach (e :: es) X.env = (false, eval e X.env) :: starEach es X.env := by rfl) (hplain : (backTo pos (starEach es X.env)).any (·.1) = false := by rfl) :
    PE X (.Call (.Attribute o name apos) (e :: es) [] pos) (tE G W fe (xMeth [(T1, F1)] da dA)) :=
  xmeth_ok h.on (fun t f hm => by simp only [List.mem_singleton, Prod.mk.injEq] at hm; obtain ⟨rfl, rfl⟩ := hm; exact ⟨m1, h1⟩) ho ha hbase hfew hline hs hplain
theorem mt2 {name : Str} {T1 T2 : String} {F1 F2 : OpM} (m1 : MtD G X name T1 F1) (m2 : MtD G X name T2 F2) (ho : PE X o (tE G W fe da)) (ha : PA X (e :: es) (tA G W fe dA)) (h1 : T1 ≠ "" := by decide) (h2 : T2 ≠ "" := by decide) (hbase : attributeBase o name X.env (eval o X.env) = eval o X.env := by rfl)
    (hfew : ((backTo pos (starEach (e :: es) X.env)).all (fun x => !x.1) && (backToKw pos (keywordEach [] X.env)).all (fun x => x.1.isSome)
      && decide ((e :: es).length + ([] : List Keyword).length + (if ([] : List Keyword).isEmpty then 0 else 1) < 30)) = true := by rfl)
    (hline : (apos.endLine == pos.line) = true := by rfl) (hs : starEach (e :: es) X.env = (false, eval e X.env) :: starEach es X.env := by rfl) (hplain : (backTo pos (starEach es X.env)).any (·.1) = false := by rfl) :
    PE X (.Call (.Attribute o name apos) (e :: es) [] pos) (tE G W fe (xMeth [(T1, F1), (T2, F2)] da dA)) :=
  xmeth_ok h.on (fun t f hm => by
    simp only [List.mem_cons, List.not_mem_nil, or_false, Prod.mk.injEq] at hm
    rcases hm with ⟨rfl, rfl⟩ | ⟨rfl, rfl⟩
    · exact ⟨m1, h1⟩
    · exact ⟨m2, h2⟩) ho ha hbase hfew hline hs hplain
theorem mt10 {name : Str} {T1 : String} {F1 : OpM} (m1 : MtD G X name T1 F1) (ho : PE X o (tE G W fe da)) (h1 : T1 ≠ "" := by decide) (hbase : attributeBase o name X.env (eval o X.env) = eval o X.env := by rfl) (hline : (apos.endLine == pos.line) = true := by rfl) :
    PE X (.Call (.Attribute o name apos) [] [] pos) (tE G W fe (xMeth [(T1, F1)] da aNil)) :=
  xmeth0_ok h.on (fun t f hm => by simp only [List.mem_singleton, Prod.mk.injEq] at hm; obtain ⟨rfl, rfl⟩ := hm; exact ⟨m1, h1⟩) ho hbase hline
theorem sortItems {xp cpos : Pos} (j : Nat) (ho : PE X o (tE G W fe da)) (hj : T.bls[j]? = some "sorted" := by rfl) (hg : Gl X "sorted" := by rfl) (hbase : attributeBase o "items" X.env (eval o X.env) = eval o X.env := by rfl) (hline : (apos.endLine == cpos.line) = true := by rfl) :
    PE X (.Call (.Name "sorted" xp) [.Call (.Attribute o "items" apos) [] [] cpos] [] pos) (tE G W fe (xItemsF bSortItems da)) := xsortItems_ok h.on h.calm h.u64 hg (h.tx.bl j _ hj) ho hbase hline (by decide) (by decide) boot_sorted rfl rfl
theorem len (j : Nat) (ha : PA X [e] (tA G W fe dA)) (hj : T.bls[j]? = some "len" := by rfl) (hg : Gl X "len" := by rfl) (he : starEach [e] X.env = (false, eval e X.env) :: starEach [] X.env := by rfl) : PE X (.Call (.Name "len" p) [e] [] pos) (tE G W fe (xCallF bLen dA)) := h.bi (bLen_ok h.on) j ha PySem.boot_len hj hg (by decide) (by decide) he rfl
/-! ### iterables, targets -/
theorem nm (i : Nat) (hi : X.N[i]? = some x := by rfl) (hx : Loc X.env.scope x := by first | exact Or.inl rfl | exact Or.inr rfl) (hf : X.fn x = true ∨ X.env.scope.names.lookup x = some .local := by first | exact Or.inl rfl | exact Or.inr rfl) : PG X (.Name x pos) (tP G (.nm i)) := pnm_ok h.nd hi hx hf
theorem pc {p : Pat} {ps : List Pat} (h1 : PG X e (tP G p)) (h2 : PGs X es (tPs G ps)) (hs : (assignEach (e :: es) X.env).map (·.2) = assign e X.env :: (assignEach es X.env).map (·.2) := by rfl) : PGs X (e :: es) (tPs G (p :: ps)) := pcons_ok h1 h2 hs
theorem tpl {ps : List Pat} {kk : Nat} (h1 : PGs X es (tPs G ps)) (hn : (assignEach es X.env).length = ps.length := by rfl) (hst : (assignEach es X.env).findIdx? (·.1) = none := by rfl) : PG X (.Tuple es kk pos) (tP G (.tp ps)) := ptup_ok h.on h.calm h1 hn hst
variable {tg : Expr} {P : Pat}
theorem it (he : PE X e (tE G W fe da)) : PI X tg e (tI G W fe P (iAny da)) := iany_ok h.on he
theorem rg1 (j : Nat) (ha : PA X [a] (tA G W fe dA)) (hj : T.bls[j]? = some "range" := by rfl) (hg : Gl X "range" := by rfl) (hs : starEach [a] X.env = [(false, eval a X.env)] := by rfl) : PI X tg (.Call (.Name "range" q) [a] [] pos) (tI G W fe P (iRange1 dA)) := irange1_ok hg (h.tx.bl j _ hj) ha hs
theorem rg2 (j : Nat) (ha : PA X [a, b] (tA G W fe dA)) (hj : T.bls[j]? = some "range" := by rfl) (hg : Gl X "range" := by rfl) (hs : starEach [a, b] X.env = [(false, eval a X.env), (false, eval b X.env)] := by rfl) (hs2 : starEach [b] X.env = [(false, eval b X.env)] := by rfl) : PI X tg (.Call (.Name "range" q) [a, b] [] pos) (tI G W fe P (iRange2 dA)) := irange2_ok hg (h.tx.bl j _ hj) ha hs hs2
theorem zp {elts : List Expr} {kk : Nat} {ps : List Pat} {tpos : Pos} (j : Nat) (ha : PA X [a, b] (tA G W fe dA)) (hj : T.bls[j]? = some "zip" := by rfl) (hg : Gl X "zip" := by rfl) (hs : starEach [a, b] X.env = (false, eval a X.env) :: starEach [b] X.env := by rfl) (hpl : (backTo pos (starEach [b] X.env)).any (·.1) = false := by rfl) :
    PI X (.Tuple elts kk tpos) (.Call (.Name "zip" q) [a, b] [] pos) (tI G W fe (.tp ps) (iZipD dA)) := izip_ok h.on hg (h.tx.bl j _ hj) ha hs hpl
theorem lc {elt iter : Expr} {ifs : List Expr} {scope : Scope} {it : DenI} {own : List (Str × Nat)} (ok : BlkOk X.N X.env.scope scope own) (hi : PI X tg iter (tI G W fe P it))
    (hg : ∀ (s : Shared) (H : Hp) (C : Addr) (cl : List (Str × Addr)) (fp : List Addr), Ok T G (X.blk s H scope (compEnvC scope cl C X.env) fp) noW fe k → PG (X.blk s H scope (compEnvC scope cl C X.env) fp) tg (tP G P))
    (ht : ∀ (s : Shared) (H : Hp) (C : Addr) (cl : List (Str × Addr)) (fp : List Addr), Ok T G (X.blk s H scope (compEnvC scope cl C X.env) fp) noW fe k → PTs (X.blk s H scope (compEnvC scope cl C X.env) fp) ifs (tT G noW fe dt))
    (he : ∀ (s : Shared) (H : Hp) (C : Addr) (cl : List (Str × Addr)) (fp : List Addr), Ok T G (X.blk s H scope (compEnvC scope cl C X.env) fp) noW fe k → PE (X.blk s H scope (compEnvC scope cl C X.env) fp) elt (tE G noW fe da)) (hs : ∀ x, foldedSetIterable iter X.env x = pure x := by intro _; rfl) (hsl : ∀ i ∈ P.slots, i ∈ own.map (·.2) := by decide) :
    PE X (.ListComp elt [⟨tg, iter, ifs, 0⟩] scope pos) (tE G W fe (xLc it P dt da (own.map (·.2)))) :=
  xlc_ok h.on h.calm h.nd hi ok (fun s H C cl fp => hg s H C cl fp (h.blk _ _ _ _ _)) (fun s H C cl fp => ht s H C cl fp (h.blk _ _ _ _ _)) (fun s H C cl fp => he s H C cl fp (h.blk _ _ _ _ _)) hs hsl
theorem dict {keys : List (Option Expr)} {values : List Expr} {l : List (Den × Den)} (hp : PPs X pos keys values (l.map fun p => (tE G W fe p.1, tE G W fe p.2))) (hall : keys.all (·.isSome) = true := by rfl) (hl : keys.length = values.length := by rfl) (h0 : keys ≠ [] := by simp) (h15 : keys.length ≤ 15 := by decide) :
    PE X (.Dict keys values pos) (tE G W fe (xDict l)) := xdict_ok h.on h.u64 hp hall hl h0 h15
end Ok
end
end Mn
set_option Elab.async false
set_option linter.all false
set_option maxRecDepth 100000
set_option maxHeartbeats 1000000
/-! Mn19: the words of statements; defs by steps. -/
namespace Mn
open PySem L2 PySem.Spec PyProof.Rows
theorem str0 {G : Gx} {X : Cx} {W : WX} {fe : FE} {z : Str} {j : Nat} {pos : Pos} : PE X (.Constant (.str z) j pos) (tE G W fe (xLit (.str z))) := lit_ok (fun _ _ => by simp [RV]) pe_str
theorem bo0 {G : Gx} {X : Cx} {W : WX} {fe : FE} {z : Bool} {j : Nat} {pos : Pos} : PE X (.Constant (.bool z) j pos) (tE G W fe (xLit (.bl z))) := lit_ok (fun _ _ => by simp [RV]) pe_bl
theorem int0 {G : Gx} {X : Cx} {W : WX} {fe : FE} {z : Int} {j : Nat} {pos : Pos} : PE X (.Constant (.int z) j pos) (tE G W fe (xLit (.int z))) := lit_ok (fun _ _ => by simp [RV]) pe_int
theorem non0 {G : Gx} {X : Cx} {W : WX} {fe : FE} {j : Nat} {pos : Pos} : PE X (.Constant .none j pos) (tE G W fe (xLit .non)) := lit_ok (fun _ _ => by simp [RV]) pe_non
theorem var0 {G : Gx} {X : Cx} {W : WX} {fe : FE} {x : Str} {pos : Pos} (i : Nat) (hN : X.N[i]? = some x := by rfl) (hv : Vis X.env.scope x := by first | exact Or.inl rfl | exact Or.inr (Or.inl rfl) | exact Or.inr (Or.inr rfl)) (hd : (x == ("__debug__" : Str)) = false := by decide)
    (hcd : (x == ("__classdict__" : Str)) = false := by decide) : PE X (.Name x pos) (tE G W fe (xVar i)) := pv_ok (pe_var hN hv hd hcd)
/-- except clauses -/
def Hds (T : Tx) (G : Gx) (X : Cx) (fe : FE) (hds : List ExceptHandler) (r : List ClD) : Prop := ∃ l, HdsMix X hds l ∧ ClOk G X.K fe l r
section
variable {T : Tx} {G : Gx} {X : Cx} {W : WX} {fe : FE} {k : Nat} {a b c e o : Expr} {es rest : List Expr} {da db dc di dO : Den} {dA : DenA} {dt du : DenT} {x : Str} {p p2 p' q q2 pos apos sp pos' : Pos} {ds ds' : DenS} {body sa sb : List Stmt} {tg iter : Expr} {P : Pat} {it : DenI}
theorem sx (he : PE X e (tE G W fe da)) (hs : swapsWith e none pos.line X.env = pure false := by rfl) : PS X (.Expr e pos) (tS G W fe (sExpr da)) := sexpr_ok he hs
namespace OkS
variable (h : OkS T G X W fe k)
include h
theorem set (i : Nat) (he : PE X e (tE G W fe da)) (hi : X.N[i]? = some x := by rfl) (hx : Loc X.env.scope x := by first | exact Or.inl rfl | exact Or.inr rfl) (hs : swapsWith e (some (.Name x p')) pos.line X.env = pure false := by rfl) (hf : X.fn x = true ∨ X.env.scope.names.lookup x = some .local := by first | exact Or.inl rfl | exact Or.inr rfl) :
    PS X (.Assign [.Name x p'] e pos) (tS G W fe (sSet i da)) := sset_ok h.nd hi hx he hs hf
theorem tup (he : PE X e (tE G W fe da)) (hg : PG X tg (tP G P)) (hs : swapsWithSole [tg] e pos.line X.env = pure false := by rfl) (hw : swappedStores [tg] e X.env = pure none := by rfl) (h1 : (assignEach [tg] X.env).map (·.2) = [assign tg X.env] := by rfl) :
    PS X (.Assign [tg] e pos) (tS G W fe (sTup P da)) := stup_ok he hg hs hw h1
theorem sub (he : PE X e (tE G W fe da)) (ho : PE X o (tE G W fe dO)) (hi : PE X b (tE G W fe di))
    (ha : ∀ v, assign (.Subscript o b sp) X.env v = (do
      let ov ← holding [v] (eval o X.env)
      let iv ← holding [v, ov] (eval b X.env)
      standAt sp
      holding [v, ov, iv] (setItem ov iv v)
      release [v, ov, iv] []) := by intro _; rfl)
    (hs : swapsWithSole [.Subscript o b sp] e pos.line X.env = pure false := by rfl) (hw : swappedStores [.Subscript o b sp] e X.env = pure none := by rfl) (h1 : (assignEach [.Subscript o b sp] X.env).map (·.2) = [assign (.Subscript o b sp) X.env] := by rfl) :
    PS X (.Assign [.Subscript o b sp] e pos) (tS G W fe (sSub dO di da)) := ssub_ok h.on h.u64 he ho hi ha hs hw h1
theorem for_ (hi : PI X tg iter (tI G W fe P it)) (hg : PG X tg (tP G P)) (hb : PSs X body (tS G W fe ds)) (hs : ∀ x, foldedSetIterable iter X.env x = pure x := by intro _; rfl) : PS X (.For tg iter body [] pos) (tS G W fe (sFor it P ds)) := sfor_ok h.pass h.calm hi hg hb hs
theorem while_ (hc : PT X c (tT G W fe dt)) (hb : PSs X body (tS G W fe ds)) : PS X (.While c body [] pos) (tS G W fe (sWhile dt ds)) := swhile_ok h.pass hc hb
theorem setLc {y : Str} {py spos : Pos} {elt : Expr} {ifs : List Expr} {scope : Scope} {own : List (Str × Nat)} (i : Nat) (ok : BlkOk X.N X.env.scope scope own) (hi : PI X tg iter (tI G W fe P it))
    (hg : ∀ (s : Shared) (H : Hp) (C : Addr) (cl : List (Str × Addr)) (fp : List Addr), Ok T G (X.blk s H scope (compEnvC scope cl C X.env) fp) noW fe k → PG (X.blk s H scope (compEnvC scope cl C X.env) fp) tg (tP G P))
    (ht : ∀ (s : Shared) (H : Hp) (C : Addr) (cl : List (Str × Addr)) (fp : List Addr), Ok T G (X.blk s H scope (compEnvC scope cl C X.env) fp) noW fe k → PTs (X.blk s H scope (compEnvC scope cl C X.env) fp) ifs (tT G noW fe dt))
    (he : ∀ (s : Shared) (H : Hp) (C : Addr) (cl : List (Str × Addr)) (fp : List Addr), Ok T G (X.blk s H scope (compEnvC scope cl C X.env) fp) noW fe k → PE (X.blk s H scope (compEnvC scope cl C X.env) fp) elt (tE G noW fe da))
    (hsw : swapsWith (.ListComp elt [⟨tg, iter, ifs, 0⟩] scope pos) (some (.Name y py)) spos.line X.env = pure true) (hy : X.N[i]? = some y := by rfl) (hyl : X.env.scope.names.lookup y = some .local := by rfl)
    (hs : ∀ x, foldedSetIterable iter X.env x = pure x := by intro _; rfl) (hsl : ∀ i ∈ P.slots, i ∈ own.map (·.2) := by decide) :
    PS X (.Assign [.Name y py] (.ListComp elt [⟨tg, iter, ifs, 0⟩] scope pos) spos) (tS G W fe (sSet i (xLc it P dt da (own.map (·.2))))) :=
  ssetLc_ok h.on h.calm h.nd hy hyl hsw hi ok (fun s H C cl fp => hg s H C cl fp (h.blk _ _ _ _ _)) (fun s H C cl fp => ht s H C cl fp (h.blk _ _ _ _ _)) (fun s H C cl fp => he s H C cl fp (h.blk _ _ _ _ _)) hs hsl
theorem raise0 (c : Nat) (hx : T.exs[c]? = some (x, none) := by rfl) (hg : Gl X x := by rfl) (hdb : (x == ("__debug__" : Str)) = false := by decide) : PS X (.Raise (some (.Call (.Name x p) [] [] pos)) none p2) (tS G W fe (sRaise0 c)) := by
  obtain ⟨C, hC, hm, hk, hs, ht, hq⟩ := h.tx.ex c x none hx
  exact sraise0_ok h.calm h.tk PySem.F.excBase_ValueError hq hm hk (raises_own hs ht) hg hdb hC
theorem raise1 {f : Str} (c : Nat) (ha : PA X [e] (tA G W fe dA)) (hx : T.exs[c]? = some (x, some f) := by rfl) (hg : Gl X x := by rfl) (hdb : (x == ("__debug__" : Str)) = false := by decide) (he : starEach [e] X.env = (false, eval e X.env) :: starEach [] X.env := by rfl) : PS X (.Raise (some (.Call (.Name x p) [e] [] pos)) none p2) (tS G W fe (sRaise1 c dA)) := by
  obtain ⟨C, hC, hm, hk, hs, ht, hxf, T1, T2, hno, fI, fd, hI, htI, hB, hF⟩ := h.tx.ex c x (some f) hx
  refine sraise1_ok (k := 1) h.calm h.tk T1 hI htI ?_ (h.room.mono (by omega)) hB (by rw [hxf]; exact hno) hg hm ha hC hdb he rfl
  rw [hxf]
  exact hF _ _ _ _
theorem try_ {h₀ : ExceptHandler} {hds : List ExceptHandler} {r : List ClD} (hb : ∀ (W' : WX) (pn : List (Addr × Obj)) (xe : Value → Shared → Prop), OkS T G (X.tr pn xe) W' fe k → PSs (X.tr pn xe) body (tS G W' fe ds)) (hh : Hds T G X fe (h₀ :: hds) r) :
    PS X (.Try body (h₀ :: hds) [] [] pos) (tS G W fe (sTry ds r)) := by
  obtain ⟨l, h1, h2⟩ := hh
  exact stry_ok h.hs h.hf h.nd h.tk (fun W' pn xe tk ps => hb W' pn xe (h.tr tk ps)) h1 h2
theorem hnil : Hds T G X fe [] [] := ⟨[], .nil, .nil⟩
theorem hplain {b₀ : Stmt} {suite : List Stmt} {hds : List ExceptHandler} {r : List ClD} {fl : Option Str} (c : Nat) (hr : Hds T G X fe hds r)
    (hsu : ∀ (a : Addr) (oe : Obj) (pn : List (Addr × Obj)), PSs (X.suite a ((a, oe) :: pn)) (b₀ :: suite) (tS G noW fe ds)) (hx : T.exs[c]? = some (x, fl) := by rfl) (hg : Gl X x := by rfl) (hdb : (x == ("__debug__" : Str)) = false := by decide) :
    Hds T G X fe (.ExceptHandler (some (.Name x p)) none (b₀ :: suite) pos' :: hds) (.plain (T.of c) ds :: r) := by
  obtain ⟨C, hC, hm, _⟩ := h.tx.ex c x fl hx
  obtain ⟨l, h1, h2⟩ := hr
  exact ⟨_, .plain ⟨hg, hdb, .inl hm⟩ (fun a oe cls d pn _ _ => suite_ok (hsu a oe pn)) h1, .plain (fun c' C' hc' => h.tx.exm c C c' C' hC hc') h2⟩
theorem hfield {n fld : Str} {q1 : Pos} {hds : List ExceptHandler} {r : List ClD} (c i : Nat) (hr : Hds T G X fe hds r) (hx : T.exs[c]? = some (x, some fld) := by rfl) (hsub : T.sub[c]? = some [c] := by rfl) (hi : X.N[i]? = some n := by rfl) (hln : X.env.kindOf n = some .local := by rfl) (hv : Vis X.env.scope n := by first | exact Or.inl rfl | exact Or.inr (Or.inl rfl) | exact Or.inr (Or.inr rfl))
    (hg : Gl X x := by rfl) (hdb : (x == ("__debug__" : Str)) = false := by decide) (hd : (n == ("__debug__" : Str)) = false := by decide) (hcd : (n == ("__classdict__" : Str)) = false := by decide) (hb : attributeBase (.Name n q1) fld X.env (eval (.Name n q1) X.env) = eval (.Name n q1) X.env := by rfl) :
    Hds T G X fe (.ExceptHandler (some (.Name x p)) (some n) [.Return (some (.Attribute (.Name n q1) fld q2)) pos] pos' :: hds) (.field (T.of c) i :: r) := by
  obtain ⟨C, hC, hm, hk, hs, ht, hxf, T1, T2, hno, _⟩ := h.tx.ex c x (some fld) hx
  obtain ⟨l, h1, h2⟩ := hr
  subst hxf
  refine ⟨_, .as_ ⟨hg, hdb, .inl hm⟩ hi hln (fun a oe cls d pn hz hf => field_ok T2 hno hz hf hi hv hd hcd hb) h1, .field (fun c' C' hc' => h.tx.exm c C c' C' hC hc') (fun c' hc' => ?_) hC h2⟩
  have e : T.sub.getD c [] = [c] := by rw [List.getD_eq_getElem?_getD, hsub]; rfl
  unfold Tx.of at hc'
  rw [e] at hc'
  simpa using hc'
end OkS
end
end Mn
set_option Elab.async false
set_option linter.all false
set_option maxRecDepth 100000
set_option maxHeartbeats 1000000
/-! Mn20: all defs of a text at once; the law's walk. -/
namespace Mn
open PySem L2 PySem.Spec PyProof.Rows
/-- a def: its name, its statement, its slots (np parameters first), what it does -/
structure Dn where
  nm : Str
  st : Stmt
  np : Nat
  N : List Str
  den : DenS
/-- what the defs do, n calls deep -/
def run (ds : List Dn) : Nat → FE
  | 0 => fun _ _ _ => .bad
  | n + 1 => fun j => match ds[j]? with
    | some d => fun vs m => gcO m (bodyD d.np d.N.length d.den (run ds n) vs m)
    | none => fun _ _ => .bad
theorem run_at {ds : List Dn} {j n : Nat} {d : Dn} (h : ds[j]? = some d) : run ds (n + 1) j = fun vs m => gcO m (bodyD d.np d.N.length d.den (run ds n) vs m) := by
  simp only [run, h]
theorem spF_gc {G : Gx} {d : List D → Mem → Out D} (vs : List V) (H : Hp) (Q : VK) (E : XK) (h : spF G (fun vs m => gcO m (d vs m)) vs H Q E) : spF G d vs H Q E := by
  obtain ⟨β, m, ds, rp, rv, g⟩ := h
  exact ⟨β, m, ds, rp, rv, GoodE.gc rp g⟩
/-- the body of the def d is what d says -/
def BodyOk (T : Tx) (d : Dn) : Prop := ∀ (G : Gx) (fe : FE) (k : Nat) (P : Program) (w : World) (K : PySem.W.Frag) (mg : Str → Option Value) (base : Heap) (f : Addr) (cdv : Value) (A : Around) (outer : List PySem.Env) (s : Shared) (H : Hp) (E : XK),
  OkS T G (cxOf (L2.CX P w) P w K mg base d.N d.nm (defScope d.st) f cdv A outer s H E) (fun c d _ H => E c d H) fe k →
    PSs (cxOf (L2.CX P w) P w K mg base d.N d.nm (defScope d.st) f cdv A outer s H E) (defBody d.st) (tS G (fun c d _ H => E c d H) fe d.den)
/-- a def's text: its scope, its body -/
structure DefOk (T : Tx) (d : Dn) : Prop where
  np : d.np ≤ d.N.length
  sc : FnScope d.N (d.N.take d.np) (defScope d.st)
  body : BodyOk T d
/-- a def as it stands behind the top -/
structure DefAt (K : PySem.W.Frag) (mg : Str → Option Value) (d : Dn) (f : Addr) : Prop where
  gl : mg d.nm = some (.ref f)
  ex : ∃ fd, Fun K d.nm d.nm d.st f fd ∧ ∀ us : List Value, us.length = (d.N.take d.np).length → bindArgs fd ⟨us, []⟩ = pure ((d.N.take d.np).zip us)
section
variable {T : Tx} {ds : List Dn} {G : Gx} {P : Program} {w : World} {K : PySem.W.Frag} {mg : Str → Option Value} {base : Heap} {n j : Nat} {d : Dn} {f : Addr} {fd : FuncData}
theorem def_run (hG : G.P = P ∧ G.w = w ∧ G.K = K) (tx : TxOk G K mg T) (D : DefOk T d) (hj : ds[j]? = some d) (hF : Fun K d.nm d.nm d.st f fd) (F : Fns G P w K mg base (n + 2) (run ds n)) : FnOk P w K mg base (L2.CX P w) (n + 3) f fd (d.N.take d.np) (spF G (run ds (n + 1) j)) := by
  have e : (d.N.take d.np).length = d.np := by rw [List.length_take]; exact Nat.min_eq_left D.np
  have q := body_ok (fe := run ds n) (den := d.den) (k := n + 2) (P := P) (w := w) (K := K) (mg := mg) (base := base) (G := G) hF D.sc fun cdv A outer s H E hr =>
    D.body G (run ds n) n P w K mg base f cdv A outer s H E (Ok.body hG hr F tx D.sc.nd)
  rw [run_at hj]
  rw [e] at q
  exact q.imp spF_gc
theorem fns_run (hG : G.P = P ∧ G.w = w ∧ G.K = K) (tx : TxOk G K mg T) (hd : ∀ (j : Nat) (d : Dn), ds[j]? = some d → DefOk T d)
    (hf : ∀ j f, G.fa j = some f → ∃ d, ds[j]? = some d ∧ DefAt K mg d f) (base : Heap) : ∀ n, Fns G P w K mg base (n + 2) (run ds n)
  | 0 => fun j f h => by
    obtain ⟨d, hj, hgl, fd, hF, hB⟩ := hf j f h
    refine ⟨fd, _, hF.okX (k := 1) (hd j d hj).sc (fun vs H Q E h => ?_) (fun cdv A outer s H vs Q E hr h => ?_), hF.kp, .all hB⟩
    · obtain ⟨β, m, ds, rp, rv, g⟩ := h
      exact g.elim
    · obtain ⟨β, m, ds, rp, rv, g⟩ := h
      exact g.elim
  | n + 1 => fun j f h => by
    obtain ⟨d, hj, hgl, fd, hF, hB⟩ := hf j f h
    exact ⟨fd, d.N.take d.np, def_run hG tx (hd j d hj) hj hF (fns_run hG tx hd hf base n), hF.kp, .all hB⟩
end
theorem FzL.only {K : PySem.W.Frag} {H : Hp} {a : Addr} {xs : List V} (hO : Only H) (h : SqL K H a xs) : FzL K H a xs := by
  rcases h with (h | ⟨o, h⟩) | h
  · rcases hO a with q | ⟨o, ys, q⟩
    · rw [q] at h; cases h
    · rw [q] at h; cases h
  · exact .inl ⟨o, h⟩
  · exact .inr h
/-- what is wanted of the law's def -/
def spLaw (K : PySem.W.Frag) : Sp := fun vs H Q _ => ∃ (a : Addr) (ns : List Int), vs = [.ref a] ∧ FzL K H a (ns.map V.int) ∧ ns.length ≤ 63 ∧ ∀ H', Q (.bl true) H'
theorem rvs_ints {G : Gx} {H : Hp} {β : List Pl} : ∀ (ns : List Int), RVs G H β (ns.map V.int) (ns.map D.int)
  | [] => RVs.nil
  | n :: ns => RVs.cons (by simp [RV]) (rvs_ints ns)
theorem Rp.empty {G : Gx} {H : Hp} : Rp G H [] [] := ⟨rfl, by simp, by simp⟩
theorem spLaw_of {G : Gx} {d : List D → Mem → Out D} (hlaw : ∀ ns : List Int, ns.length ≤ 63 → ∃ m', d [.seq (ns.map D.int)] [] = .ok (.bl true) m') (vs : List V) (H : Hp) (Q : VK) (E : XK) (h : spLaw G.K vs H Q E) : spF G d vs H Q E := by
  obtain ⟨a, ns, rfl, hz, hl, hq⟩ := h
  obtain ⟨m', e⟩ := hlaw ns hl
  refine ⟨[], [], [.seq (ns.map D.int)], Rp.empty, RVs.one (by simp only [RV]; exact ⟨a, _, rfl, hz, rvs_ints ns⟩), ?_⟩
  rw [e]
  intro u β' H' x r q
  simp only [RV] at q
  subst q
  exact hq _
/-- behind the top: a numbering of the defs and classes -/
def TopOk (T : Tx) (ds : List Dn) (P : Program) (w : World) (K : PySem.W.Frag) (mg : Str → Option Value) : Prop := ∃ G : Gx, (G.P = P ∧ G.w = w ∧ G.K = K) ∧ TxOk G K mg T ∧ (∀ (j : Nat) (d : Dn), ds[j]? = some d → ∃ f, G.fa j = some f) ∧ ∀ j f, G.fa j = some f → ∃ d, ds[j]? = some d ∧ DefAt K mg d f
theorem law_fn {T : Tx} {ds : List Dn} {P : Program} {w : World} {K : PySem.W.Frag} {mg : Str → Option Value} {n j : Nat} {d : Dn} {fa : Addr} {x : Str} (hd : ∀ (j : Nat) (d : Dn), ds[j]? = some d → DefOk T d) (top : TopOk T ds P w K mg) (hj : ds[j]? = some d) (hfa : mg d.nm = some (.ref fa)) (hp : d.N.take d.np = [x])
    (hlaw : ∀ ns : List Int, ns.length ≤ 63 → ∃ m', run ds (n + 1) j [.seq (ns.map D.int)] [] = .ok (.bl true) m') :
    ∃ fd : FuncData, (∀ (s : Shared) (u : Value), BindsTo s fd ⟨[u], []⟩ [(x, u)]) ∧ ∀ base : Heap, FnOk P w K mg base (L2.CX P w) (n + 3) fa fd [x] (spLaw K) := by
  obtain ⟨G, hG, tx, hall, hback⟩ := top
  obtain ⟨f, hf⟩ := hall j d hj
  obtain ⟨d', hj', D⟩ := hback j f hf
  rw [hj] at hj'
  cases hj'
  have e := D.gl
  rw [hfa] at e
  cases e
  obtain ⟨fd, hF, hB⟩ := D.ex
  rw [hp] at hB
  refine ⟨fd, fun s u => .of_eq (hB [u] rfl), fun base => ?_⟩
  have q := def_run (base := base) hG tx (hd j d hj) hj hF (fns_run hG tx hd hback base n)
  rw [hp] at q
  obtain ⟨_, _, rfl⟩ := hG
  exact q.imp (spLaw_of hlaw)
/-- THE WALK of a law -/
theorem walk {l : PySem.W.OpenLaw} {q : Program} {loose : List Str} {XP : (Str → Option Value) → Heap → Prop} {YP : World → Heap → Prop} {dr : DefRec} {K : Params → PySem.W.Frag} {T : Tx} {ds : List Dn} {n j : Nat} {d : Dn} {x : Str} (hn : l.most = some 63) (hdf : dr.params.defaults = []) (hr : Room (n + 3) callerA)
    (hY : ∀ (w : World) (h : Heap), YP w h → (K w.params).In h) (hd : ∀ (j : Nat) (d : Dn), ds[j]? = some d → DefOk T d) (hj : ds[j]? = some d) (hnm : d.nm = dr.name) (hp : d.N.take d.np = [x])
    (F : ∀ (w : World) (mg : Str → Option Value) (h : Heap), (K w.params).In h → h.Ns mainGlobals mg → TopOk T ds l.prog w (K w.params) mg)
    (hlaw : ∀ ns : List Int, ns.length ≤ 63 → ∃ m', run ds (n + 1) j [.seq (ns.map D.int)] [] = .ok (.bl true) m') :
    PySem.W.WalkO q loose XP YP l.row.toRowW dr [] (fun f vs => PySem.call f vs) :=
  L2.walk_of (n := 63) (k := n + 3) (x := x) (CX := fun w => L2.CX l.prog w) (sp := fun w => spLaw (K w.params)) hn (by decide) hdf hr hY
    (fun w mg fa h KX G hmg => by
      obtain ⟨fd, h1, h2⟩ := law_fn hd (F w mg h KX G) hj (by rw [hnm]; exact hmg) hp hlaw
      exact ⟨fd, h1, fun base _ _ => h2 base⟩)
    (fun _ _ a ns hl hO hS => ⟨a, ns, rfl, FzL.only hO hS, hl, fun _ => rfl⟩) (fun w H s e s' z => by
      obtain ⟨_, _, _, _, _, _, _, _, _, _, _, _, z⟩ := z
      exact z)
/-! ### what the top has written, row by row -/
def AllL {α : Type} (p : α → Prop) : List α → Prop
  | [] => True
  | a :: l => p a ∧ AllL p l
def AllZ {α β : Type} (p : α → β → Prop) : List α → List β → Prop
  | [], [] => True
  | a :: l, b :: r => p a b ∧ AllZ p l r
  | _, _ => False
theorem AllL.get {α : Type} {p : α → Prop} : ∀ {l : List α} {i : Nat} {a : α}, AllL p l → l[i]? = some a → p a
  | [], i, a, _, h => by simp at h
  | b :: l, 0, a, q, h => by
    simp only [List.getElem?_cons_zero, Option.some.injEq] at h
    subst h
    exact q.1
  | b :: l, i + 1, a, q, h => AllL.get (i := i) q.2 (by simpa using h)
theorem AllZ.fwd {α β : Type} {p : α → β → Prop} : ∀ {l : List α} {r : List β} {i : Nat} {a : α}, AllZ p l r → l[i]? = some a → ∃ b, r[i]? = some b ∧ p a b
  | [], _, i, a, _, h => by simp at h
  | a' :: l, [], i, a, q, h => q.elim
  | a' :: l, b :: r, 0, a, q, h => by
    simp only [List.getElem?_cons_zero, Option.some.injEq] at h
    subst h
    exact ⟨b, rfl, q.1⟩
  | a' :: l, b :: r, i + 1, a, q, h => by
    obtain ⟨b', e, z⟩ := AllZ.fwd (i := i) q.2 (by simpa using h)
    exact ⟨b', by simpa using e, z⟩
theorem AllZ.bwd {α β : Type} {p : α → β → Prop} : ∀ {l : List α} {r : List β} {i : Nat} {b : β}, AllZ p l r → r[i]? = some b → ∃ a, l[i]? = some a ∧ p a b
  | [], [], i, a, _, h => by simp at h
  | [], b' :: r, i, a, q, h => q.elim
  | a' :: l, [], i, a, q, h => q.elim
  | a' :: l, b' :: r, 0, b, q, h => by
    simp only [List.getElem?_cons_zero, Option.some.injEq] at h
    subst h
    exact ⟨a', rfl, q.1⟩
  | a' :: l, b' :: r, i + 1, b, q, h => by
    obtain ⟨b', e, z⟩ := AllZ.bwd (i := i) q.2 (by simpa using h)
    exact ⟨b', by simpa using e, z⟩
/-- the parameters take what is given -/
def BindOk (d : Dn) : Prop := ∀ (kV doc pm : Value) (an : Option Addr) (cdv ct : Value) (us : List Value), us.length = (d.N.take d.np).length → bindArgs (PySem.W.fnOf d.nm d.nm (defArgs d.st) (defBody d.st) (defScope d.st) .none kV doc pm an cdv ct) ⟨us, []⟩ = pure ((d.N.take d.np).zip us)
def AllI {α : Type} (p : α → Nat → Prop) : List α → Nat → Prop
  | [], _ => True
  | a :: l, i => p a i ∧ AllI p l (i + 1)
theorem AllI.get {α : Type} {p : α → Nat → Prop} : ∀ {l : List α} {k i : Nat} {a : α}, AllI p l k → l[i]? = some a → p a (k + i)
  | [], k, i, a, _, h => by simp at h
  | b :: l, k, 0, a, q, h => by
    simp only [List.getElem?_cons_zero, Option.some.injEq] at h
    subst h
    exact q.1
  | b :: l, k, i + 1, a, q, h => by
    have := AllI.get (i := i) q.2 (by simpa using h)
    rwa [Nat.add_right_comm] at this
section
variable {K : PySem.W.Frag} {h : Heap} {mg : Str → Option Value}
theorem DefAt.of {nm : Str} {st : Stmt} {np : Nat} {N : List Str} {den : DenS} {f : Addr} {oc : Value} {od an : Option Addr} {osl : Array (Option Value)} {kV doc pm cdv ct : Value} (X : K.In h) (G : h.Ns mainGlobals mg)
    (b : BindOk ⟨nm, st, np, N, den⟩)
    (a : PySem.W.nsIn K mainGlobals nm = some (some (.ref f))) (l : K.lookup f = some ⟨oc, od, .func (PySem.W.fnOf nm nm (defArgs st) (defBody st) (defScope st) .none kV doc pm an cdv ct), osl⟩) (c : PySem.W.codeIn K cdv nm = true) (k : PySem.W.keepIn K (.ref f) = true) :
    DefAt K mg ⟨nm, st, np, N, den⟩ f := ⟨PySem.W.mg_of X G a, _, fun_mk l c k, fun us hl => b _ _ _ _ _ _ us hl⟩
/-- a constant as it stands -/
def CnAt (K : PySem.W.Frag) (mg : Str → Option Value) (p : Str × D) : Prop := ∃ u, mg p.1 = some u ∧ CD K u p.2
theorem CnAt.of {x : Str} {d : D} {u : Value} (X : K.In h) (G : h.Ns mainGlobals mg) (a : PySem.W.nsIn K mainGlobals x = some (some u)) (c : CD K u d) : CnAt K mg (x, d) := ⟨u, PySem.W.mg_of X G a, c⟩
/-- an error's class as it stands, at C -/
def ExAt (K : PySem.W.Frag) (mg : Str → Option Value) (p : Str × Option Str) (C : Addr) : Prop := mg p.1 = some (.ref C) ∧ PySem.W.keepIn K (.ref C) = true ∧ PySem.W.subIn K (.ref C) (.type "BaseException") = some true ∧ PySem.W.typeIn K (.ref C) = some (.type "type") ∧
  (match p.2 with
  | none => PySem.W.excIn K C [.type "ValueError", .type "Exception", .type "BaseException", .type "object"] "ValueError.__new__" = true
  | some f => OexC K C ∧ XfC K C ∧ PySem.W.findIn K (.ref C) f = some none ∧ ∃ fI fd, PySem.W.findIn K (.ref C) "__init__" = some (some (.ref fI)) ∧ PySem.W.typeIn K (.ref fI) = some (.type "function") ∧ Binds K fd ["self", "word"] [] ∧
    ∀ (P : Program) (w : World) (mg : Str → Option Value) (base : Heap), FnOk P w K mg base (L2.CX P w) 1 fI fd ["self", "word"] (spInit K f))
theorem ExAt.plain {x : Str} {C : Addr} (X : K.In h) (G : h.Ns mainGlobals mg) (a : PySem.W.nsIn K mainGlobals x = some (some (.ref C))) (k : PySem.W.keepIn K (.ref C) = true) (s : PySem.W.subIn K (.ref C) (.type "BaseException") = some true) (t : PySem.W.typeIn K (.ref C) = some (.type "type"))
    (q : PySem.W.excIn K C [.type "ValueError", .type "Exception", .type "BaseException", .type "object"] "ValueError.__new__" = true) : ExAt K mg (x, none) C := ⟨PySem.W.mg_of X G a, k, s, t, q⟩
/-- an error's class with __init__(self, word): self.f = word -/
theorem ExAt.init {x q f : Str} {C fI : Addr} {st : Stmt} {nm qn : Str} {N : Addr} {bs bm : List Value} {sn : List Str} {sub : List Value} {ab : Bool} {col : Option Bool} {dd : Option Addr} {m0 m1 m2 m3 m5 : Option Value} {oc : Value} {od an : Option Addr} {osl : Array (Option Value)} {kV doc pm cdv ct : Value} {q1 q2 q3 q4 : Pos}
    (X : K.In h) (G : h.Ns mainGlobals mg) (S : FnScope ["self", "word"] ["self", "word"] (defScope st)) (hb : defBody st = [.Assign [.Attribute (.Name "self" q1) f q2] (.Name "word" q3) q4])
    (b : ∀ (kV doc pm : Value) (an : Option Addr) (cdv ct : Value) (us : List Value), us.length = (["self", "word"] : List Str).length → bindArgs (PySem.W.fnOf "__init__" q (defArgs st) (defBody st) (defScope st) .none kV doc pm an cdv ct) ⟨us, []⟩ = pure ((["self", "word"] : List Str).zip us))
    (a : PySem.W.nsIn K mainGlobals x = some (some (.ref C))) (k : PySem.W.keepIn K (.ref C) = true) (s : PySem.W.subIn K (.ref C) (.type "BaseException") = some true) (t : PySem.W.typeIn K (.ref C) = some (.type "type"))
    (xL : K.lookup C = some (excClassObj nm qn C N bs bm true sn sub ab col dd m0 m1 m2 m3 m5 "ValueError.__new__")) (hbm : PySem.HandSPX.refsVE bm = true) (sa : PySem.W.findIn K (.ref C) "__setattr__" = some (some (.builtin "object.__setattr__")))
    (ga : PySem.W.findIn K (.ref C) "__getattribute__" = some (some (.builtin "BaseException.__getattribute__"))) (gg : PySem.W.findIn K (.ref C) "__getattr__" = some none) (hd : PySem.W.hasDictIn K C = true) (nb : PySem.W.findIn K (.ref C) f = some none)
    (a1 : PySem.W.findIn K (.ref C) "__init__" = some (some (.ref fI))) (t1 : PySem.W.typeIn K (.ref fI) = some (.type "function")) (l1 : K.lookup fI = some ⟨oc, od, .func (PySem.W.fnOf "__init__" q (defArgs st) (defBody st) (defScope st) .none kV doc pm an cdv ct), osl⟩) (c1 : PySem.W.codeIn K cdv q = true) (k1 : PySem.W.keepIn K (.ref fI) = true) : ExAt K mg (x, some f) C := by
  refine ⟨PySem.W.mg_of X G a, k, s, t, ⟨⟨_, _, _, _, _, _, _, _, _, _, _, _, _, _, _, xL, hbm⟩, sa, s, t, k⟩, ⟨ga, gg, s, hd⟩, nb, fI, _, a1, t1, .all (b _ _ _ _ _ _), fun P w mg base => init_ok (fun_mk l1 c1 k1) S hb⟩
theorem exm_of {C C' : Addr} {b c : Bool} (h1 : PySem.W.subIn K (.ref C) (.type "BaseException") = some true) (h2 : PySem.W.isClsIn K C = true) (h3 : PySem.W.typeIn K (.ref C) = some (.type "type")) (h4 : PySem.W.subIn K (.ref C') (.ref C) = some b) (e : b = c) :
    PySem.W.exmOne K (.ref C') (.ref C) = some c := by
  subst e
  have e1 : (PySem.W.subIn K (.ref C) (.type "BaseException") == some true) = true := by rw [h1] <;> rfl
  have e2 : ((PySem.W.clsIn K C).isSome && PySem.W.typeIn K (.ref C) == some (.type "type")) = true := by
    have h2' : (PySem.W.clsIn K C).isSome = true := h2
    rw [h2', h3] <;> rfl
  show (if (PySem.W.subIn K (.ref C) (.type "BaseException") == some true) = true then (if ((PySem.W.clsIn K C).isSome && PySem.W.typeIn K (.ref C) == some (.type "type")) = true then PySem.W.subIn K (.ref C') (.ref C) else none) else none) = some b
  rw [if_pos e1, if_pos e2, h4]
theorem top_mk {T : Tx} {ds : List Dn} {P : Program} {w : World} (fas cas : List Addr) (hn : T.fns = ds.map (·.nm)) (hd : AllZ (DefAt K mg) ds fas) (hb : AllL (fun x => mg x = none) T.bls) (hc : AllL (CnAt K mg) T.cns) (he : AllZ (ExAt K mg) T.exs cas)
    (hs : AllZ (fun C (r : List Nat) => AllI (fun C' c' => PySem.W.exmOne K (.ref C') (.ref C) = some (r.contains c')) cas 0) cas T.sub) : TopOk T ds P w K mg := by
  refine ⟨⟨P, w, K, fun j => fas[j]?, fun c => cas[c]?, fun c => match T.exs[c]? with
    | some (_, some f) => f
    | _ => ""⟩, ⟨rfl, rfl, rfl⟩, ⟨fun j x h => ?_, fun j x h => hb.get h, fun i x d h => hc.get h, fun c x f h => ?_, fun c C c' C' h1 h2 => ?_⟩, fun j d h => ?_, fun j f h => hd.bwd h⟩
  · rw [hn, List.getElem?_map] at h
    obtain ⟨d, h1, rfl⟩ := Option.map_eq_some_iff.mp h
    obtain ⟨f, h2, D⟩ := hd.fwd h1
    exact ⟨f, h2, D.gl⟩
  · obtain ⟨C, h1, e1, e2, e3, e4, e5⟩ := he.fwd h
    refine ⟨C, h1, e1, e2, e3, e4, ?_⟩
    cases f with
    | none => exact e5
    | some f =>
      refine ⟨?_, e5⟩
      show (match T.exs[c]? with
        | some (_, some f) => f
        | _ => "") = f
      rw [h]
  · obtain ⟨r, h3, h4⟩ := hs.fwd h1
    have h6 := h4.get h2
    rw [Nat.zero_add] at h6
    rw [h6]
    unfold Tx.of
    rw [List.getD_eq_getElem?_getD, h3]
    rfl
  · obtain ⟨f, h2, _⟩ := hd.fwd h
    exact ⟨f, h2⟩
end
end Mn
set_option Elab.async false
set_option linter.all false
set_option maxRecDepth 100000
set_option maxHeartbeats 1000000
/-! Mq0: how denotations are reckoned. -/
namespace Mn
open PySem
section
variable {fe : FE} {ρ : Env} {m : Mem} {a b c o : Den} {t u : DenT} {dA : DenA} {f g : Op2} {d : D} {i j : Nat} {sa sb : DenS}
/-! ### garbage -/
theorem take_app {α : Type} (m x : List α) : (m ++ x).take m.length = m := by simp
@[simp] theorem cutOk_same : cutOk m m = true := by simp [cutOk]
@[simp] theorem cutOk_app (x : Mem) : cutOk m (m ++ x) = true := by simp [cutOk]
@[simp] theorem gcO_same : gcO m (.ok d m) = .ok d m := by simp [gcO]
theorem gcO_app (x : Mem) (h : closed m.length d = true) : gcO m (.ok d (m ++ x)) = .ok d m := by simp [gcO, h]
theorem gcO_len {m' : Mem} (h : m'.length = m.length) : gcO m (.ok d m') = .ok d m' := by
  unfold gcO
  simp only
  rw [← h, List.take_length]
  simp
theorem gcB_len {m' : Mem} {k : Bool} (h : m'.length = m.length) : gcB m (.ok k m') = .ok k m' := by
  unfold gcB
  simp only
  rw [← h, List.take_length]
  simp
@[simp] theorem gcB_end {k : Bool} (o o' : O) : gcB (m ++ [o]) (.ok k (m ++ [o'])) = .ok k (m ++ [o']) := gcB_len (by simp)
@[simp] theorem gcO_end (o o' : O) : gcO (m ++ [o]) (.ok d (m ++ [o'])) = .ok d (m ++ [o']) := gcO_len (by simp)
@[simp] theorem gcO_bad : gcO m .bad = .bad := rfl
@[simp] theorem gcB_same {k : Bool} : gcB m (.ok k m) = .ok k m := by simp [gcB]
@[simp] theorem gcB_app {k : Bool} (x : Mem) : gcB m (.ok k (m ++ x)) = .ok k m := by simp [gcB]
@[simp] theorem gcO_app0 (x : Mem) (h : closed m.length d = true) : gcO m (.ok d (m ++ x)) = .ok d m := gcO_app x h
@[simp] theorem gcO_app1 (o : O) (x : Mem) (h : closed (m.length + 1) d = true) : gcO (m ++ [o]) (.ok d (m ++ o :: x)) = .ok d (m ++ [o]) := by
  have := gcO_app (m := m ++ [o]) (d := d) x (by simpa using h)
  simpa using this
@[simp] theorem gcO_app2 (o o' : O) (x : Mem) (h : closed (m.length + 2) d = true) : gcO (m ++ [o, o']) (.ok d (m ++ o :: o' :: x)) = .ok d (m ++ [o, o']) := by
  have := gcO_app (m := m ++ [o, o']) (d := d) x (by simpa using h)
  simpa using this
@[simp] theorem gcB_app1 {k : Bool} (o : O) (x : Mem) : gcB (m ++ [o]) (.ok k (m ++ o :: x)) = .ok k (m ++ [o]) := by
  have := gcB_app (m := m ++ [o]) (k := k) x
  simpa using this
@[simp] theorem gcB_app2 {k : Bool} (o o' : O) (x : Mem) : gcB (m ++ [o, o']) (.ok k (m ++ o :: o' :: x)) = .ok k (m ++ [o, o']) := by
  have := gcB_app (m := m ++ [o, o']) (k := k) x
  simpa using this
@[simp] theorem gcO_bl (x : Mem) (k : Bool) : gcO m (.ok (.bl k) (m ++ x)) = .ok (.bl k) m := gcO_app x rfl
@[simp] theorem gcO_int (x : Mem) (k : Int) : gcO m (.ok (.int k) (m ++ x)) = .ok (.int k) m := gcO_app x rfl
@[simp] theorem gcO_str (x : Mem) (k : Str) : gcO m (.ok (.str k) (m ++ x)) = .ok (.str k) m := gcO_app x rfl
@[simp] theorem gcO_non (x : Mem) : gcO m (.ok .non (m ++ x)) = .ok .non m := gcO_app x rfl
@[simp] theorem gcO_exc0 (x : Mem) (k : Nat) : gcO m (.exc k none (m ++ x)) = .exc k none m := by simp [gcO]
@[simp] theorem gcO_exc1 (k : Nat) : gcO m (.exc k none m) = .exc k none m := by simp [gcO]
@[simp] theorem gcO_exc2 (k : Nat) (p : Option D) : gcO m (.exc k p m) = .exc k p m := by simp [gcO]
@[simp] theorem gcB_exc1 (k : Nat) (p : Option D) : gcB m (.exc k p m) = .exc k p m := by simp [gcB]
/-! ### expressions -/
def andK (x : D) (r : Out D) (m : Mem) : Out D := match x with
  | .bl true => r
  | .bl false => .ok (.bl false) m
  | _ => .bad
def orK (x : D) (r : Out D) (m : Mem) : Out D := match x with
  | .bl false => r
  | .bl true => .ok (.bl true) m
  | _ => .bad
def notK (x : D) (m : Mem) : Out D := match x with
  | .bl b => .ok (.bl (!b)) m
  | _ => .bad
def blK (x : D) (m : Mem) : Out Bool := match x with
  | .bl b => .ok b m
  | _ => .bad
@[simp] theorem andK_bl (k : Bool) (r : Out D) : andK (.bl k) r m = if k = true then r else .ok (.bl false) m := by cases k <;> rfl
@[simp] theorem orK_bl (k : Bool) (r : Out D) : orK (.bl k) r m = if k = true then .ok (.bl true) m else r := by cases k <;> rfl
@[simp] theorem notK_bl (k : Bool) : notK (.bl k) m = .ok (.bl (!k)) m := rfl
@[simp] theorem blK_bl (k : Bool) : blK (.bl k) m = .ok k m := rfl
@[simp] theorem if_and (k l : Bool) : (if k = true then Out.ok (D.bl l) m else .ok (.bl false) m) = .ok (.bl (k && l)) m := by cases k <;> rfl
@[simp] theorem if_or (k l : Bool) : (if k = true then Out.ok (D.bl true) m else .ok (.bl l) m) = .ok (.bl (k || l)) m := by cases k <;> rfl
@[simp] theorem if_andT (k l : Bool) : (if k = true then Out.ok l m else .ok false m) = .ok (k && l) m := by cases k <;> rfl
@[simp] theorem if_orT (k l : Bool) : (if k = true then Out.ok true m else .ok l m) = .ok (k || l) m := by cases k <;> rfl
section
variable {P : Prop} [Decidable P]
@[simp] theorem if_andP (l : Bool) : (if P then Out.ok (D.bl l) m else .ok (.bl false) m) = .ok (.bl (decide P && l)) m := by split <;> simp_all
@[simp] theorem if_andP' (l : Bool) : (if P then Out.ok (D.bl false) m else .ok (.bl l) m) = .ok (.bl (!decide P && l)) m := by split <;> simp_all
@[simp] theorem if_orP (l : Bool) : (if P then Out.ok (D.bl true) m else .ok (.bl l) m) = .ok (.bl (decide P || l)) m := by split <;> simp_all
@[simp] theorem if_orP' (l : Bool) : (if P then Out.ok (D.bl l) m else .ok (.bl true) m) = .ok (.bl (!decide P || l)) m := by split <;> simp_all
@[simp] theorem if_andQ (l : Bool) : (if P then Out.ok l m else .ok false m) = .ok (decide P && l) m := by split <;> simp_all
@[simp] theorem if_andQ' (l : Bool) : (if P then Out.ok false m else .ok l m) = .ok (!decide P && l) m := by split <;> simp_all
@[simp] theorem if_orQ (l : Bool) : (if P then Out.ok true m else .ok l m) = .ok (decide P || l) m := by split <;> simp_all
@[simp] theorem if_orQ' (l : Bool) : (if P then Out.ok l m else .ok true m) = .ok (!decide P || l) m := by split <;> simp_all
end
@[simp] theorem xVar_ev : xVar i fe ρ m = (match ρ[i]? with
  | some (some v) => .ok v m
  | _ => .bad) := rfl
@[simp] theorem xLit_ev : xLit d fe ρ m = .ok d m := rfl
@[simp] theorem xBin_ev : xBin f a b fe ρ m = (a fe ρ m).bind fun x m1 => (b fe ρ m1).bind fun y m2 => .ofO (f x y m2) := rfl
@[simp] theorem xNeg_ev : xNeg a fe ρ m = (a fe ρ m).bind fun x m1 => match x with
  | .int i => .ok (.int (-i)) m1
  | _ => .bad := rfl
@[simp] theorem xGc_ev : xGc a fe ρ m = gcO m (a fe ρ m) := rfl
@[simp] theorem tVal_ev : tVal a fe ρ m = (a fe ρ m).bind fun x m1 => match truth m1 x with
  | some b => .ok b m1
  | none => .bad := rfl
@[simp] theorem tB_ev : tB a fe ρ m = (a fe ρ m).bind fun x m1 => blK x m1 := rfl
@[simp] theorem tNt_ev : tNt t fe ρ m = (t fe ρ m).bind fun b m1 => .ok (!b) m1 := rfl
@[simp] theorem tAn_ev : tAn t u fe ρ m = (t fe ρ m).bind fun x m1 => if x = true then u fe ρ m1 else .ok false m1 := rfl
@[simp] theorem tOo_ev : tOo t u fe ρ m = (t fe ρ m).bind fun x m1 => if x = true then .ok true m1 else u fe ρ m1 := rfl
@[simp] theorem tGc_ev : tGc t fe ρ m = gcB m (t fe ρ m) := rfl
@[simp] theorem xAnd_ev : xAnd a b fe ρ m = (a fe ρ m).bind fun x m1 => andK x (b fe ρ m1) m1 := rfl
@[simp] theorem xOr_ev : xOr a b fe ρ m = (a fe ρ m).bind fun x m1 => orK x (b fe ρ m1) m1 := rfl
@[simp] theorem xNot_ev : xNot a fe ρ m = (a fe ρ m).bind fun x m1 => notK x m1 := rfl
@[simp] theorem xIf_ev : xIf t a b fe ρ m = (t fe ρ m).bind fun x m1 => if x = true then a fe ρ m1 else b fe ρ m1 := rfl
@[simp] theorem aNil_ev : aNil fe ρ m = .ok [] m := rfl
@[simp] theorem aCons_ev : aCons a dA fe ρ m = (a fe ρ m).bind fun x m1 => (dA fe ρ m1).bind fun xs m2 => .ok (x :: xs) m2 := rfl
@[simp] theorem xTup_ev : xTup dA fe ρ m = (dA fe ρ m).bind fun xs m1 => if xs.length ≤ sizeLine then .ok (.tup xs) m1 else .bad := rfl
@[simp] theorem xLst_ev : xLst dA fe ρ m = (dA fe ρ m).bind fun xs m1 => if xs.length ≤ sizeLine then .ok (.loc m1.length) (m1 ++ [.lst xs]) else .bad := rfl
@[simp] theorem xChain_ev : xChain f g a b c fe ρ m = (a fe ρ m).bind fun x m1 => (b fe ρ m1).bind fun y m2 => (Out.ofO (f x y m2)).bind fun z m3 => andK z ((c fe ρ m3).bind fun w m4 => .ofO (g y w m4)) m3 := rfl
@[simp] theorem xCallF_ev {F : OpN} : xCallF F dA fe ρ m = (dA fe ρ m).bind fun ds m1 => .ofO (F ds m1) := rfl
@[simp] theorem xCall_ev : xCall j dA fe ρ m = (dA fe ρ m).bind fun ds m1 => fe j ds m1 := rfl
@[simp] theorem xCallV_ev : xCallV i dA fe ρ m = (match ρ[i]? with
  | some (some (.fn j)) => (dA fe ρ m).bind fun ds m1 => fe j ds m1
  | _ => .bad) := rfl
@[simp] theorem xIsi_ev {Ts : List String} : xIsi Ts a fe ρ m = (a fe ρ m).bind fun x m1 => match tyN m1 x with
  | some t => .ok (.bl (Ts.any (isT t))) m1
  | none => .bad := rfl
@[simp] theorem xMeth_ev {fs : List (String × OpM)} : xMeth fs o dA fe ρ m = (o fe ρ m).bind fun d m1 => match fs.lookup (tyD m1 d) with
  | some f => (dA fe ρ m1).bind fun ds m2 => .ofO (f d ds m2)
  | none => .bad := rfl
@[simp] theorem xSl_ev {lo hi : DenO} : xSl a lo hi fe ρ m = (a fe ρ m).bind fun x m1 => (lo fe ρ m1).bind fun l m2 => (hi fe ρ m2).bind fun h m3 => .ofO (opSl x l h m3) := rfl
@[simp] theorem oNone_ev : oNone fe ρ m = .ok none m := rfl
@[simp] theorem oSome_ev : oSome a fe ρ m = (a fe ρ m).bind fun x m1 => match x with
  | .int i => .ok (some i) m1
  | _ => .bad := rfl
/-! ### statements -/
@[simp] theorem ofE_ok {α : Type} (v : α) (k : α → Mem → OutS) : OutS.ofE (.ok v m) ρ k = k v m := rfl
@[simp] theorem ofE_exc {α : Type} (n : Nat) (p : Option D) (k : α → Mem → OutS) : OutS.ofE (.exc n p m) ρ k = .exc n p ρ m := rfl
@[simp] theorem ofE_bad {α : Type} (k : α → Mem → OutS) : OutS.ofE (.bad : Out α) ρ k = .bad := rfl
@[simp] theorem seq_next (k : Env → Mem → OutS) : OutS.seq (.next ρ m) k = k ρ m := rfl
@[simp] theorem seq_ret (v : D) (k : Env → Mem → OutS) : OutS.seq (.ret v m) k = .ret v m := rfl
@[simp] theorem seq_exc (n : Nat) (p : Option D) (k : Env → Mem → OutS) : OutS.seq (.exc n p ρ m) k = .exc n p ρ m := rfl
@[simp] theorem sNil_ev : sNil fe ρ m = .next ρ m := rfl
@[simp] theorem sSeq_ev : sSeq sa sb fe ρ m = (sa fe ρ m).seq fun ρ' m' => sb fe ρ' m' := rfl
@[simp] theorem sExpr_ev : sExpr a fe ρ m = .ofE (a fe ρ m) ρ fun _ m1 => .next ρ m1 := rfl
@[simp] theorem sRet_ev : sRet a fe ρ m = .ofE (a fe ρ m) ρ fun v m1 => .ret v m1 := rfl
@[simp] theorem sIf_ev : sIf t sa sb fe ρ m = .ofE (t fe ρ m) ρ fun c m1 => if c = true then sa fe ρ m1 else sb fe ρ m1 := rfl
@[simp] theorem sSet_ev : sSet i a fe ρ m = .ofE (a fe ρ m) ρ fun v m1 => .next (ρ.set i (some v)) m1 := rfl
@[simp] theorem sRaise0_ev : sRaise0 i fe ρ m = .exc i none ρ m := rfl
@[simp] theorem sRaise1_ev : sRaise1 i dA fe ρ m = .ofE (dA fe ρ m) ρ fun vs m1 => match vs with
  | [v] => .exc i (some v) ρ m1
  | _ => .bad := rfl
/-- a def's end -/
@[simp] theorem bodyD_ev {np nN : Nat} {den : DenS} {ds : List D} (h : ds.length = np) : bodyD np nN den fe ds m = (match den fe (ds.map some ++ List.replicate (nN - np) none) m with
      | .ret v m' => .ok v m'
      | .next _ m' => .ok .non m'
      | .exc c p _ m' => .exc c p m'
      | _ => .bad) := by unfold bodyD; (rw [if_pos h]) <;> rfl
end
end Mn
set_option Elab.async false
set_option linter.all false
set_option maxRecDepth 100000
set_option maxHeartbeats 1000000
/-! Mq1: comprehensions and loops reckoned. -/
namespace Mn
open PySem
theorem sizeLine_is : sizeLine = 16777216 := sizeLine_eq
section
variable {fe : FE} {ρ : Env} {m m1 : Mem} {a : Den} {p : Pat} {w : Watch} {own : List Nat} {it : DenI} {t : DenT} {e : Den} {xs acc : List D}
theorem lcGo_pure {t : Env → Mem → Out Bool} {e : Env → Mem → Out D} (T : D → Bool) (E : D → D) (hw : watchOk w m = true) : ∀ (xs acc : List D), acc.length + xs.length ≤ sizeLine →
    (∀ x ∈ xs, ∃ ρ1, bindP p x ρ = some ρ1 ∧ t ρ1 m = .ok (T x) m ∧ (T x = true → e ρ1 m = .ok (E x) m)) → lcGo t e p w ρ xs acc m = .ok (acc ++ (xs.filter T).map E) m
  | [], acc, _, _ => by simp [lcGo, hw]
  | x :: xs, acc, hl, h => by
    obtain ⟨ρ1, h1, h2, h3⟩ := h x (by simp)
    simp only [List.length_cons] at hl
    simp only [lcGo, hw, if_true, h1, h2, noX_ok, Out.bind_ok]
    cases c : T x with
    | true =>
      simp only [if_true, h3 c, noX_ok, Out.bind_ok]
      rw [if_pos (by omega), lcGo_pure T E hw xs _ (by simp; omega) fun y hy => h y (by simp [hy])]
      simp [c]
    | false =>
      simp only [Bool.false_eq_true, if_false]
      rw [lcGo_pure T E hw xs _ (by omega) fun y hy => h y (by simp [hy])]
      simp [c]
/-- a comprehension that changes nothing -/
theorem xLc_pure (T : D → Bool) (E : D → D) (hit : it fe ρ m = .ok ⟨xs, w, none⟩ m1) (hw : watchOk w m1 = true) (hl : xs.length ≤ sizeLine)
    (h : ∀ x ∈ xs, ∃ ρ1, bindP p x (wipeE ρ own) = some ρ1 ∧ t fe ρ1 m1 = .ok (T x) m1 ∧ (T x = true → e fe ρ1 m1 = .ok (E x) m1)) : xLc it p t e own fe ρ m = .ok (.loc m1.length) (m1 ++ [.lst ((xs.filter T).map E)]) := by
  unfold xLc
  rw [hit]
  simp only [Out.bind_ok, lockM, lcGo_pure T E hw xs [] (by simpa using hl) h, unlockL, unlockM, List.nil_append]
/-- without a test -/
theorem xLc_map (E : D → D) (hit : it fe ρ m = .ok ⟨xs, w, none⟩ m1) (hw : watchOk w m1 = true) (hl : xs.length ≤ sizeLine)
    (h : ∀ x ∈ xs, ∃ ρ1, bindP p x (wipeE ρ own) = some ρ1 ∧ e fe ρ1 m1 = .ok (E x) m1) : xLc it p tYesD e own fe ρ m = .ok (.loc m1.length) (m1 ++ [.lst (xs.map E)]) := by
  rw [xLc_pure (fun _ => true) E hit hw hl fun x hx => by
    obtain ⟨ρ1, h1, h2⟩ := h x hx
    exact ⟨ρ1, h1, rfl, fun _ => h2⟩]
  rw [List.filter_eq_self.mpr (by simp)]
/-- a comprehension that changes what stands: I what holds behind so many turns -/
theorem lcGo_inv {e : Env → Mem → Out D} (I : List D → Mem → Prop) : ∀ (xs acc : List D) (m : Mem), I acc m → acc.length + xs.length ≤ sizeLine →
    (∀ acc m, I acc m → watchOk w m = true) → (∀ x ∈ xs, ∀ acc m, I acc m → ∃ ρ1 y m2, bindP p x ρ = some ρ1 ∧ e ρ1 m = .ok y m2 ∧ I (acc ++ [y]) m2) →
    ∃ acc' m', lcGo (tYesD fe) e p w ρ xs acc m = .ok acc' m' ∧ I acc' m' ∧ acc'.length = acc.length + xs.length
  | [], acc, m, i, _, hw, _ => ⟨acc, m, by simp [lcGo, hw acc m i], i, by simp⟩
  | x :: xs, acc, m, i, hl, hw, h => by
    obtain ⟨ρ1, y, m2, h1, h2, i2⟩ := h x (by simp) acc m i
    simp only [List.length_cons] at hl
    obtain ⟨acc', m', h3, h4, h5⟩ := lcGo_inv I xs (acc ++ [y]) m2 i2 (by simp; omega) hw fun z hz => h z (by simp [hz])
    refine ⟨acc', m', ?_, h4, by simp at h5 ⊢; omega⟩
    simp only [lcGo, hw acc m i, if_true, h1, tYesD, noX_ok, Out.bind_ok, h2]
    rw [if_pos (by omega)]
    exact h3
theorem xLc_inv (I : List D → Mem → Prop) (hit : it fe ρ m = .ok ⟨xs, w, none⟩ m1) (i0 : I [] m1) (hl : xs.length ≤ sizeLine) (hw : ∀ acc m, I acc m → watchOk w m = true)
    (h : ∀ x ∈ xs, ∀ acc m, I acc m → ∃ ρ1 y m2, bindP p x (wipeE ρ own) = some ρ1 ∧ e fe ρ1 m = .ok y m2 ∧ I (acc ++ [y]) m2) :
    ∃ acc m', xLc it p tYesD e own fe ρ m = .ok (.loc m'.length) (m' ++ [.lst acc]) ∧ I acc m' ∧ acc.length = xs.length := by
  obtain ⟨acc, m', h1, h2, h3⟩ := lcGo_inv (fe := fe) I xs [] m1 i0 (by simpa using hl) hw h
  refine ⟨acc, m', ?_, h2, by simpa using h3⟩
  unfold xLc
  rw [hit]
  simp only [Out.bind_ok, lockM, h1, unlockL, unlockM]
/-- a loop that goes on to its end: I what holds ahead of the rest -/
theorem forGo_inv {b : Env → Mem → OutS} (I : List D → Env → Mem → Prop) (hw : ∀ r ρ m, I r ρ m → watchOk w m = true) : ∀ (xs : List D) (ρ : Env) (m : Mem), I xs ρ m →
    (∀ x r ρ m, I (x :: r) ρ m → ∃ ρ1 ρ2 m2, bindP p x ρ = some ρ1 ∧ (b ρ1 m = .next ρ2 m2 ∨ b ρ1 m = .cont ρ2 m2) ∧ I r ρ2 m2) → ∃ ρ' m', forGo b p w xs ρ m = .next ρ' m' ∧ I [] ρ' m'
  | [], ρ, m, i, _ => ⟨ρ, m, by simp [forGo, hw _ _ _ i], i⟩
  | x :: xs, ρ, m, i, h => by
    obtain ⟨ρ1, ρ2, m2, h1, h2, i2⟩ := h x xs ρ m i
    obtain ⟨ρ', m', h3, h4⟩ := forGo_inv I hw xs ρ2 m2 i2 h
    refine ⟨ρ', m', ?_, h4⟩
    simp only [forGo, hw _ _ _ i, if_true, h1]
    rcases h2 with h2 | h2 <;> rw [h2] <;> simpa using h3
theorem sFor_inv {b : DenS} (I : List D → Env → Mem → Prop) (hit : it fe ρ m = .ok ⟨xs, w, none⟩ m1) (hw : ∀ r ρ m, I r ρ m → watchOk w m = true) (i0 : I xs ρ m1)
    (h : ∀ x r ρ m, I (x :: r) ρ m → ∃ ρ1 ρ2 m2, bindP p x ρ = some ρ1 ∧ (b fe ρ1 m = .next ρ2 m2 ∨ b fe ρ1 m = .cont ρ2 m2) ∧ I r ρ2 m2) : ∃ ρ' m', sFor it p b fe ρ m = .next ρ' m' ∧ I [] ρ' m' := by
  obtain ⟨ρ', m', h1, h2⟩ := forGo_inv I hw xs ρ m1 i0 h
  refine ⟨ρ', m', ?_, h2⟩
  unfold sFor
  rw [hit]
  simp only [ofE_ok, lockM, h1, unlockS, unlockM]
@[simp] theorem iAny_ev : iAny a fe ρ m = (a fe ρ m).bind fun d m1 => match d with
  | .tup xs => .ok ⟨xs, [], none⟩ m1
  | .seq xs => .ok ⟨xs, [], none⟩ m1
  | .str z => .ok ⟨signs z, [], none⟩ m1
  | .loc l => match m1[l]? with
    | some (.lst xs) => .ok ⟨xs, [(l, .lst xs)], none⟩ m1
    | some (.dict kvs lk) => .ok ⟨kvs.map (·.1), [], if lk = true then none else some l⟩ m1
    | _ => .bad
  | _ => .bad := rfl
@[simp] theorem watchOk_nil : watchOk [] m = true := rfl
theorem boolsD_map {α : Type} (B : α → Bool) : ∀ xs : List α, boolsD (xs.map fun x => D.bl (B x)) = some (xs.map B)
  | [] => rfl
  | x :: xs => by simp [boolsD, boolsD_map B xs]
theorem get_end {α : Type} (m : List α) (x : α) : (m ++ [x])[m.length]? = some x := by simp
theorem xLc_bools (B : D → Bool) (hit : it fe ρ m = .ok ⟨xs, w, none⟩ m1) (hw : watchOk w m1 = true) (hl : xs.length ≤ sizeLine)
    (h : ∀ x ∈ xs, ∃ ρ1, bindP p x (wipeE ρ own) = some ρ1 ∧ e fe ρ1 m1 = .ok (.bl (B x)) m1) : xLc it p tYesD e own fe ρ m = .ok (.loc m1.length) (m1 ++ [.lst (xs.map fun x => .bl (B x))]) := xLc_map (fun x => .bl (B x)) hit hw hl h
@[simp] theorem bAll_end (B : D → Bool) : bAll [.loc m.length] (m ++ [.lst (xs.map fun x => D.bl (B x))]) = some (.bl (xs.all B), m ++ [.lst (xs.map fun x => D.bl (B x))]) := by
  simp only [bAll, listM, get_end, Option.bind_some, boolsD_map]
  simp [List.all_map, Function.comp_def]
@[simp] theorem bAny_end (B : D → Bool) : bAny [.loc m.length] (m ++ [.lst (xs.map fun x => D.bl (B x))]) = some (.bl (xs.any B), m ++ [.lst (xs.map fun x => D.bl (B x))]) := by
  simp only [bAny, listM, get_end, Option.bind_some, boolsD_map]
  simp [List.any_map, Function.comp_def]
@[simp] theorem bTuple_end : bTuple [.loc m.length] (m ++ [.lst xs]) = some (.tup xs, m ++ [.lst xs]) := by simp [bTuple, itemsM]
@[simp] theorem bTuple_end2 {o : O} : bTuple [.loc (m.length + 1)] (m ++ [o, .lst xs]) = some (.tup xs, m ++ [o, .lst xs]) := by simp [bTuple, itemsM]
@[simp] theorem bList_tup : bList [.tup xs] m = some (.loc m.length, m ++ [.lst xs]) := rfl
theorem bSorted_end (h : sortable xs = true) (hl : xs.length ≤ sizeLine) : bSorted [.loc m.length] (m ++ [.lst xs]) = some (.loc (m.length + 1), m ++ [.lst xs, .lst (sortD xs)]) := by
  simp [bSorted, seqD, h, hl]
theorem bSorted_tup (h : sortable xs = true) (hl : xs.length ≤ sizeLine) : bSorted [.tup xs] m = some (.loc m.length, m ++ [.lst (sortD xs)]) := by
  simp [bSorted, seqD, h, hl]
theorem atI_nat {α : Type} (l : List α) (i : Nat) : L2.atI l (i : Int) = l[i]? := by
  unfold L2.atI L2.ixN
  by_cases c : i < l.length
  · have : (0 : Int) ≤ i ∧ (i : Int) < l.length := by omega
    simp [c]
  · have e : l[i]? = none := List.getElem?_eq_none (by omega)
    rw [e]
    have : ¬ (i : Int) < l.length := by omega
    simp [c]
@[simp] theorem atI_0 {α : Type} (a : α) (l : List α) : L2.atI (a :: l) 0 = some a := atI_nat (a :: l) 0
@[simp] theorem atI_1 {α : Type} (a b : α) (l : List α) : L2.atI (a :: b :: l) 1 = some b := atI_nat (a :: b :: l) 1
@[simp] theorem atI_2 {α : Type} (a b c : α) (l : List α) : L2.atI (a :: b :: c :: l) 2 = some c := atI_nat (a :: b :: c :: l) 2
@[simp] theorem atI_3 {α : Type} (a b c d : α) (l : List α) : L2.atI (a :: b :: c :: d :: l) 3 = some d := atI_nat (a :: b :: c :: d :: l) 3
@[simp] theorem atI_4 {α : Type} (a b c d e : α) (l : List α) : L2.atI (a :: b :: c :: d :: e :: l) 4 = some e := atI_nat (a :: b :: c :: d :: e :: l) 4
@[simp] theorem atI_5 {α : Type} (a b c d e f : α) (l : List α) : L2.atI (a :: b :: c :: d :: e :: f :: l) 5 = some f := atI_nat (a :: b :: c :: d :: e :: f :: l) 5
/-! ### order -/
/-- a < b -/
def ltD (a b : D) : Bool := PySem.W.dataLt (toPy a) (toPy b)
/-- a < b is told -/
def ltOk : D → D → Bool
  | .int _, .int _ => true
  | .str _, .str _ => true
  | .tup xs, .tup ys => pureD 12 (.tup xs) && pureD 12 (.tup ys) && comp (toPy (.tup xs)) (toPy (.tup ys))
  | _, _ => false
theorem opLt_of {a b : D} (h : ltOk a b = true) : opLt a b m = some (.bl (ltD a b), m) := by
  unfold ltOk at h
  split at h
  · simp [opLt, ltD, toPy, PySem.W.dataLt_int]
  · simp [opLt, ltD, toPy, PySem.W.dataLt_str]
  · simp only [Bool.and_eq_true] at h
    simp [opLt, ltT, h.1.1, h.1.2, h.2, ltD]
  · cases h
/-- each one before the next -/
def ascD : List D → Bool
  | a :: b :: r => ltD a b && ascD (b :: r)
  | _ => true
def ascOk : List D → Bool
  | a :: b :: r => ltOk a b && ascOk (b :: r)
  | _ => true
def pairLt : D → Bool
  | .tup [a, b] => ltD a b
  | _ => false
theorem zip_asc : ∀ xs : List D, (zipD xs xs.tail).all pairLt = ascD xs
  | [] => rfl
  | [a] => rfl
  | a :: b :: r => by
    have := zip_asc (b :: r)
    simp only [zipD, List.tail_cons, List.zipWith_cons_cons, List.all_cons, pairLt, ascD] at this ⊢
    rw [← this]
theorem zip_ok : ∀ xs : List D, ascOk xs = true → ∀ x ∈ zipD xs xs.tail, ∃ a b, x = .tup [a, b] ∧ ltOk a b = true
  | [], _, x, h => by simp [zipD] at h
  | [a], _, x, h => by simp [zipD] at h
  | a :: b :: r, o, x, h => by
    simp only [ascOk, Bool.and_eq_true] at o
    have h' : x = .tup [a, b] ∨ x ∈ zipD (b :: r) r := by simpa [zipD] using h
    rcases h' with rfl | h'
    · exact ⟨a, b, rfl, o.1⟩
    · exact zip_ok (b :: r) o.2 x h'
@[simp] theorem cut_tail {α : Type} (xs : List α) : cutD xs (some 1) none = xs.tail := by
  unfold cutD
  have e : HT.sIx xs.length 0 (some 1) = min 1 xs.length := HT.sIx_nat xs.length 0 1
  rw [e]
  cases xs with
  | nil => rfl
  | cons a l =>
    simp [HT.sIx_none, Nat.min_eq_left (Nat.succ_le_succ (Nat.zero_le l.length))]
@[simp] theorem iZipD_ev {dA : DenA} : iZipD dA fe ρ m = (dA fe ρ m).bind fun ds m1 => match ds with
  | [x, y] => match zipI m1 x y with
    | some (xs, ys, w) => .ok ⟨zipD xs ys, w, none⟩ m1
    | none => .bad
  | _ => .bad := rfl
@[simp] theorem le_sz1 : (1 ≤ sizeLine) = True := by rw [sizeLine_is]; simp
@[simp] theorem le_sz2 : (2 ≤ sizeLine) = True := by rw [sizeLine_is]; simp
@[simp] theorem le_sz3 : (3 ≤ sizeLine) = True := by rw [sizeLine_is]; simp
@[simp] theorem le_sz4 : (4 ≤ sizeLine) = True := by rw [sizeLine_is]; simp
@[simp] theorem le_sz5 : (5 ≤ sizeLine) = True := by rw [sizeLine_is]; simp
@[simp] theorem le_sz6 : (6 ≤ sizeLine) = True := by rw [sizeLine_is]; simp
@[simp] theorem le_sz7 : (7 ≤ sizeLine) = True := by rw [sizeLine_is]; simp
@[simp] theorem le_sz8 : (8 ≤ sizeLine) = True := by rw [sizeLine_is]; simp
@[simp] theorem le_sz9 : (9 ≤ sizeLine) = True := by rw [sizeLine_is]; simp
@[simp] theorem le_sz10 : (10 ≤ sizeLine) = True := by rw [sizeLine_is]; simp
@[simp] theorem le_sz11 : (11 ≤ sizeLine) = True := by rw [sizeLine_is]; simp
@[simp] theorem le_sz12 : (12 ≤ sizeLine) = True := by rw [sizeLine_is]; simp
end
end Mn
set_option Elab.async false
set_option linter.all false
set_option maxRecDepth 100000
set_option maxHeartbeats 1000000
/-! Mq2: the order of comparable data: strict, total; sorted rows. -/
namespace Mn
open PySem PySem.W PyProof.Rows
mutual
theorem comp_inj : ∀ (x y : PyData), x.canLay0 = true → comp x y = true → ∀ r s, keyToks x ++ r = keyToks y ++ s → PyData.eqv x y = true
  | .bool a, y, _, h, r, s, e => by
    cases y <;> simp only [comp, Bool.false_eq_true] at h
    rename_i b
    simp only [keyToks, List.singleton_append, List.cons.injEq, Sum.inl.injEq] at e
    cases a <;> cases b <;> simp_all [PyData.eqv]
  | .int a, y, _, h, r, s, e => by
    cases y <;> simp only [comp, Bool.false_eq_true] at h
    simp only [keyToks, List.singleton_append, List.cons.injEq, Sum.inl.injEq] at e
    simp [PyData.eqv, e.1]
  | .str a, y, _, h, r, s, e => by
    cases y <;> simp only [comp, Bool.false_eq_true] at h
    simp only [keyToks, List.singleton_append, List.cons.injEq, Sum.inr.injEq] at e
    simp [PyData.eqv, str_of_cps e.1]
  | .tuple xs, y, l, h, r, s, e => by
    cases y <;> simp only [comp, Bool.false_eq_true] at h
    simp only [keyToks] at e
    simp only [PyData.eqv]
    exact compAll_inj xs _ (by simpa [PyData.canLay0] using l) h r s e
  | .none, y, _, h, r, s, e => by simp [comp] at h
  | .list _, y, _, h, r, s, e => by simp [comp] at h
  | .dict _, y, _, h, r, s, e => by simp [comp] at h
theorem compAll_inj : ∀ (xs ys : List PyData), PyData.canLayAll0 xs = true → compAll xs ys = true → ∀ r s, keyToksAll xs ++ r = keyToksAll ys ++ s → PyData.eqvAll xs ys = true
  | [], [], _, _, r, s, e => by simp [PyData.eqvAll]
  | [], y :: ys, _, _, r, s, e => by simp [keyToksAll] at e
  | x :: xs, [], _, _, r, s, e => by simp [keyToksAll] at e
  | x :: xs, y :: ys, l, h, r, s, e => by
    obtain ⟨l1, l2⟩ := lay_cons l
    simp only [keyToksAll, List.cons_append, List.cons.injEq, true_and, List.append_assoc] at e
    simp only [compAll] at h
    by_cases c : PyData.eqv x y = true
    · rw [if_pos c] at h
      rw [eqv_toks x y l1 c] at e
      have := compAll_inj xs ys l2 h r s (List.append_cancel_left e)
      simp [PyData.eqvAll, c, this]
    · rw [if_neg c] at h
      exact absurd (comp_inj x y l1 h _ _ e) c
end
theorem ltD_irrefl (a : D) : ltD a a = false := lex_irrefl _
theorem ltD_trans {a b c : D} (h : ltD a b = true) (g : ltD b c = true) : ltD a c = true := lex_trans _ _ _ h g
theorem ltD_total {a b : D} (l : (toPy a).canLay0 = true) (c : comp (toPy a) (toPy b) = true) (h1 : ltD a b = false) (h2 : ltD b a = false) : PyData.eqv (toPy a) (toPy b) = true := by
  have e := lex_total _ _ h1 h2
  exact comp_inj _ _ l c [] [] (by simpa using e)
theorem leD_is (a b : D) : leD a b = !ltD b a := rfl
theorem sort_pairwise (xs : List D) : (sortD xs).Pairwise fun a b => ltD b a = false := by
  have h := List.pairwise_mergeSort (le := leD) (fun a b c h1 h2 => by
    simp only [leD_is, Bool.not_eq_true'] at h1 h2 ⊢
    cases q : ltD c a with
    | false => rfl
    | true =>
      rcases lex_negTrans (O := itemOrd) _ (keyToks (toPy b)) _ q with z | z
      · exact absurd (show ltD c b = true from z) (by rw [h2]; simp)
      · exact absurd (show ltD b a = true from z) (by rw [h1]; simp)) (fun a b => by
    simp only [leD_is, Bool.or_eq_true, Bool.not_eq_true']
    cases q : ltD b a with
    | false => exact .inl rfl
    | true =>
      refine .inr ?_
      cases q2 : ltD a b with
      | false => rfl
      | true => exact absurd (ltD_trans q q2) (by rw [ltD_irrefl]; simp)) xs
  exact h.imp fun h => by simpa [leD_is] using h
theorem sort_perm (xs : List D) : (sortD xs).Perm xs := List.mergeSort_perm xs leD
/-- strictly ascending lists with the same members are the same -/
theorem asc_unique {xs ys : List D} (hx : xs.Pairwise fun a b => ltD a b = true) (hy : ys.Pairwise fun a b => ltD a b = true) (h : ∀ d, d ∈ xs ↔ d ∈ ys) : xs = ys := by
  induction xs generalizing ys with
  | nil =>
    cases ys with
    | nil => rfl
    | cons y r => exact absurd ((h y).mpr (by simp)) (by simp)
  | cons x r ih =>
    cases ys with
    | nil => exact absurd ((h x).mp (by simp)) (by simp)
    | cons y s =>
      rw [List.pairwise_cons] at hx hy
      have e : x = y := by
        rcases List.mem_cons.mp ((h x).mp (by simp)) with e | hxs
        · exact e
        · rcases List.mem_cons.mp ((h y).mpr (by simp)) with e | hyr
          · exact e.symm
          · exact absurd (ltD_trans (hx.1 y hyr) (hy.1 x hxs)) (by rw [ltD_irrefl]; simp)
      subst e
      rw [ih hx.2 hy.2 fun d => ⟨fun hd => by
        rcases List.mem_cons.mp ((h d).mp (by simp [hd])) with e | z
        · subst e
          exact absurd (hx.1 d hd) (by rw [ltD_irrefl]; simp)
        · exact z, fun hd => by
        rcases List.mem_cons.mp ((h d).mpr (by simp [hd])) with e | z
        · subst e
          exact absurd (hy.1 d hd) (by rw [ltD_irrefl]; simp)
        · exact z⟩]
theorem ascD_pairwise : ∀ {xs : List D}, ascD xs = true → xs.Pairwise fun a b => ltD a b = true
  | [], _ => .nil
  | [a], _ => by simp
  | a :: b :: r, h => by
    simp only [ascD, Bool.and_eq_true] at h
    have ih := ascD_pairwise h.2
    refine List.pairwise_cons.mpr ⟨fun y hy => ?_, ih⟩
    rcases List.mem_cons.mp hy with rfl | hy
    · exact h.1
    · exact ltD_trans h.1 ((List.pairwise_cons.mp ih).1 y hy)
theorem pairwise_ascD : ∀ {xs : List D}, (xs.Pairwise fun a b => ltD a b = true) → ascD xs = true
  | [], _ => rfl
  | [a], _ => rfl
  | a :: b :: r, h => by
    rw [List.pairwise_cons] at h
    simp only [ascD, Bool.and_eq_true]
    exact ⟨h.1 b (by simp), pairwise_ascD h.2⟩
end Mn
set_option Elab.async false
set_option linter.all false
set_option maxRecDepth 100000
set_option maxHeartbeats 1000000
/-! Mq3: loops that look; stores that grow; pairs in order. -/
namespace Mn
open PySem PySem.W PyProof.Rows
/-- a loop that gives False at the first wrong one -/
theorem forGo_check {b : Env → Mem → OutS} {p : Pat} {m : Mem} (B : D → Bool) (I : Env → Prop) (w : Watch) (hw : watchOk w m = true) : ∀ (xs : List D) (ρ : Env), I ρ →
    (∀ x ∈ xs, ∀ ρ, I ρ → ∃ ρ1, bindP p x ρ = some ρ1 ∧ (B x = true → ∃ ρ2, b ρ1 m = .next ρ2 m ∧ I ρ2) ∧ (B x = false → b ρ1 m = .ret (.bl false) m)) →
    (xs.all B = true → ∃ ρ', forGo b p w xs ρ m = .next ρ' m ∧ I ρ') ∧ (xs.all B = false → forGo b p w xs ρ m = .ret (.bl false) m)
  | [], ρ, i, _ => ⟨fun _ => ⟨ρ, by simp [forGo, hw], i⟩, fun h => by simp at h⟩
  | x :: xs, ρ, i, h => by
    obtain ⟨ρ1, h1, h2, h3⟩ := h x (by simp) ρ i
    cases c : B x with
    | true =>
      obtain ⟨ρ2, h4, i2⟩ := h2 c
      obtain ⟨g1, g2⟩ := forGo_check B I w hw xs ρ2 i2 fun y hy => h y (by simp [hy])
      constructor
      · intro q
        simp only [List.all_cons, c, Bool.true_and] at q
        obtain ⟨ρ', g3, g4⟩ := g1 q
        exact ⟨ρ', by simp only [forGo, hw, if_true, h1, h4]; simpa using g3, g4⟩
      · intro q
        simp only [List.all_cons, c, Bool.true_and] at q
        simp only [forGo, hw, if_true, h1, h4]
        simpa using g2 q
    | false =>
      refine ⟨fun q => by simp [c] at q, fun _ => ?_⟩
      simp only [forGo, hw, if_true, h1, h3 c]
      rfl
theorem sFor_check {fe : FE} {ρ : Env} {m m1 : Mem} {it : DenI} {p : Pat} {b : DenS} {w : Watch} {xs : List D} (B : D → Bool) (I : Env → Prop) (hit : it fe ρ m = .ok ⟨xs, w, none⟩ m1) (hw : watchOk w m1 = true) (i0 : I ρ)
    (h : ∀ x ∈ xs, ∀ ρ, I ρ → ∃ ρ1, bindP p x ρ = some ρ1 ∧ (B x = true → ∃ ρ2, b fe ρ1 m1 = .next ρ2 m1 ∧ I ρ2) ∧ (B x = false → b fe ρ1 m1 = .ret (.bl false) m1)) :
    (xs.all B = true → ∃ ρ', sFor it p b fe ρ m = .next ρ' m1 ∧ I ρ') ∧ (xs.all B = false → sFor it p b fe ρ m = .ret (.bl false) m1) := by
  obtain ⟨h1, h2⟩ := forGo_check (b := b fe) (p := p) (m := m1) B I w hw xs ρ i0 h
  constructor
  · intro q
    obtain ⟨ρ', h3, h4⟩ := h1 q
    refine ⟨ρ', ?_, h4⟩
    unfold sFor
    rw [hit]
    simp only [ofE_ok, lockM, h3, unlockS, unlockM]
  · intro q
    unfold sFor
    rw [hit]
    simp only [ofE_ok, lockM, h2 q, unlockS, unlockM]
mutual
theorem closed_mono {n n' : Nat} (hn : n ≤ n') : ∀ (d : D), closed n d = true → closed n' d = true
  | .loc l, h => by simp only [closed, decide_eq_true_eq] at h ⊢; omega
  | .tup xs, h => by simp only [closed] at h ⊢; exact closeds_mono hn xs h
  | .seq xs, h => by simp only [closed] at h ⊢; exact closeds_mono hn xs h
  | .non, _ => rfl
  | .bl _, _ => rfl
  | .int _, _ => rfl
  | .str _, _ => rfl
  | .fn _, _ => rfl
theorem closeds_mono {n n' : Nat} (hn : n ≤ n') : ∀ (ds : List D), closeds n ds = true → closeds n' ds = true
  | [], _ => rfl
  | x :: xs, h => by
    simp only [closeds, Bool.and_eq_true] at h ⊢
    exact ⟨closed_mono hn x h.1, closeds_mono hn xs h.2⟩
end
theorem closedO_mono {n n' : Nat} (hn : n ≤ n') (o : O) (h : closedO n o = true) : closedO n' o = true := by
  cases o with
  | lst xs => exact closeds_mono hn xs h
  | dict kvs lk =>
    simp only [closedO, List.all_eq_true, Bool.and_eq_true] at h ⊢
    exact fun q hq => ⟨closed_mono hn _ (h q hq).1, closed_mono hn _ (h q hq).2⟩
  | inst c fs =>
    simp only [closedO, List.all_eq_true] at h ⊢
    exact fun q hq => closed_mono hn _ (h q hq)
/-- a < b of pairs whose first places differ -/
theorem ltD_pair {a b x y : D} (l : (toPy a).canLay0 = true) (h : comp (toPy a) (toPy b) = true) (e : PyData.eqv (toPy a) (toPy b) = false) : ltD (.tup [a, x]) (.tup [b, y]) = ltD a b := by
  unfold ltD
  simp only [toPy, toPys]
  rw [dataLt_tuple, lt_no l h e]
/-- pairs that are sorted, of firsts that are distinct: the firsts are strictly ascending -/
theorem sort_fst {ps : List (D × D)} (hl : ∀ p ∈ ps, (toPy p.1).canLay0 = true) (hc : ∀ p ∈ ps, ∀ q ∈ ps, comp (toPy p.1) (toPy q.1) = true) (he : ∀ p ∈ ps, ∀ q ∈ ps, PyData.eqv (toPy p.1) (toPy q.1) = true → p.1 = q.1) (nd : (ps.map (·.1)).Nodup) :
    ∃ qs : List (D × D), sortD (ps.map pairD) = qs.map pairD ∧ qs.Perm ps ∧ (qs.map (·.1)).Pairwise fun a b => ltD a b = true := by
  have hp := sort_perm (ps.map pairD)
  obtain ⟨qs, h1, h2⟩ : ∃ qs : List (D × D), sortD (ps.map pairD) = qs.map pairD ∧ qs.Perm ps := by
    obtain ⟨qs, g1, g2⟩ : ∃ qs : List (D × D), qs.Perm ps ∧ sortD (ps.map pairD) = qs.map pairD := by
      have hm : ∀ d ∈ sortD (ps.map pairD), ∃ q, pairD q = d := fun d hd => by
        obtain ⟨q, _, e⟩ := List.mem_map.mp (hp.mem_iff.mp hd)
        exact ⟨q, e⟩
      have inj : Function.Injective pairD := fun x y h => by
        obtain ⟨x1, x2⟩ := x
        obtain ⟨y1, y2⟩ := y
        simpa [pairD] using h
      let f : D → D × D := fun d => match d with
        | .tup [a, b] => (a, b)
        | _ => (.non, .non)
      have hf : ∀ q, f (pairD q) = q := fun q => rfl
      refine ⟨(sortD (ps.map pairD)).map f, ?_, ?_⟩
      · have := hp.map f
        rw [List.map_map] at this
        have e : (f ∘ pairD) = id := funext hf
        rwa [e, List.map_id] at this
      · rw [List.map_map]
        conv => lhs; rw [← List.map_id (sortD (ps.map pairD))]
        refine List.map_congr_left fun d hd => ?_
        obtain ⟨q, rfl⟩ := hm d hd
        simp [hf]
    exact ⟨qs, g2, g1⟩
  refine ⟨qs, h1, h2, ?_⟩
  have h3 := sort_pairwise (ps.map pairD)
  rw [h1, List.pairwise_map] at h3
  have h4 : qs.Pairwise fun a b => a.1 ≠ b.1 := by
    have : (qs.map (·.1)).Nodup := (h2.map (·.1)).nodup_iff.mpr nd
    exact List.pairwise_map.mp this
  rw [List.pairwise_map]
  refine List.Pairwise.imp_of_mem (fun {a b} ha hb q => ?_) (h3.and h4)
  have ha' := h2.mem_iff.mp ha
  have hb' := h2.mem_iff.mp hb
  have e1 : PyData.eqv (toPy b.1) (toPy a.1) = false := by
    cases c : PyData.eqv (toPy b.1) (toPy a.1) with
    | false => rfl
    | true => exact absurd (he b hb' a ha' c).symm q.2
  have q1 : ltD b.1 a.1 = false := by
    have := q.1
    rw [show pairD b = .tup [b.1, b.2] from rfl, show pairD a = .tup [a.1, a.2] from rfl, ltD_pair (hl b hb') (hc b hb' a ha') e1] at this
    exact this
  cases c : ltD a.1 b.1 with
  | true => rfl
  | false => exact absurd (he a ha' b hb' (ltD_total (hl a ha') (hc a ha' b hb') c q1)) q.2
end Mn
namespace Mn
open PySem
/-- a comprehension whose test changes what stands: I what holds ahead of the rest -/
theorem lcGo_invT {t : Env → Mem → Out Bool} {e : Env → Mem → Out D} {p : Pat} {ρ : Env} (I : List D → List D → Mem → Prop) : ∀ (xs acc : List D) (m : Mem), I xs acc m → acc.length + xs.length ≤ sizeLine →
    (∀ x r acc m, I (x :: r) acc m → ∃ ρ1 b m2, bindP p x ρ = some ρ1 ∧ t ρ1 m = .ok b m2 ∧ (b = false → I r acc m2) ∧ (b = true → ∃ y m3, e ρ1 m2 = .ok y m3 ∧ I r (acc ++ [y]) m3)) →
    ∃ acc' m', lcGo t e p [] ρ xs acc m = .ok acc' m' ∧ I [] acc' m'
  | [], acc, m, i, _, _ => ⟨acc, m, by simp [lcGo], i⟩
  | x :: xs, acc, m, i, hl, h => by
    obtain ⟨ρ1, b, m2, h1, h2, h3, h4⟩ := h x xs acc m i
    simp only [List.length_cons] at hl
    cases b with
    | false =>
      obtain ⟨acc', m', g1, g2⟩ := lcGo_invT I xs acc m2 (h3 rfl) (by omega) h
      exact ⟨acc', m', by simp only [lcGo, watchOk_nil, if_true, h1, h2, noX_ok, Out.bind_ok, Bool.false_eq_true, if_false]; exact g1, g2⟩
    | true =>
      obtain ⟨y, m3, h5, h6⟩ := h4 rfl
      obtain ⟨acc', m', g1, g2⟩ := lcGo_invT I xs (acc ++ [y]) m3 h6 (by simp; omega) h
      refine ⟨acc', m', ?_, g2⟩
      simp only [lcGo, watchOk_nil, if_true, h1, h2, noX_ok, Out.bind_ok, h5]
      rw [if_pos (by omega)]
      exact g1
theorem xLc_invT {fe : FE} {ρ : Env} {m m1 : Mem} {it : DenI} {p : Pat} {t : DenT} {e : Den} {own : List Nat} {xs : List D} (I : List D → List D → Mem → Prop) (hit : it fe ρ m = .ok ⟨xs, [], none⟩ m1) (i0 : I xs [] m1) (hl : xs.length ≤ sizeLine)
    (h : ∀ x r acc m, I (x :: r) acc m → ∃ ρ1 b m2, bindP p x (wipeE ρ own) = some ρ1 ∧ t fe ρ1 m = .ok b m2 ∧ (b = false → I r acc m2) ∧ (b = true → ∃ y m3, e fe ρ1 m2 = .ok y m3 ∧ I r (acc ++ [y]) m3)) :
    ∃ acc m', xLc it p t e own fe ρ m = .ok (.loc m'.length) (m' ++ [.lst acc]) ∧ I [] acc m' := by
  obtain ⟨acc, m', h1, h2⟩ := lcGo_invT I xs [] m1 i0 (by simpa using hl) h
  refine ⟨acc, m', ?_, h2⟩
  unfold xLc
  rw [hit]
  simp only [Out.bind_ok, lockM, h1, unlockL, unlockM]
end Mn
set_option Elab.async false
set_option linter.all false
set_option maxRecDepth 100000
set_option maxHeartbeats 4000000
namespace Mn
namespace K60
open PySem L2 PySem.Spec PyProof.Rows
def top (i : Nat) : Stmt := PySem.Challenge.pw_whyanswers_k60_changes_of_tables.main.body.getD i (.Pass ⟨0, 0, 0, 0⟩)
def tx : Tx :=
  { fns := [("is_integer" : Str), ("is_value" : Str), ("is_name" : Str), ("is_row" : Str), ("are_ascending" : Str), ("are_fitting" : Str), ("is_tables" : Str), ("check_tables" : Str), ("are_counted" : Str), ("is_sum" : Str), ("are_rows" : Str), ("has_form" : Str), ("goes_with" : Str), ("is_change" : Str), ("check_change" : Str), ("changed_by" : Str), ("changed" : Str), ("undone" : Str), ("both" : Str), ("numbers_behind" : Str), ("moved" : Str), ("kept_by" : Str), ("kept" : Str), ("_law_bag" : Str), ("_law_draw" : Str), ("_law_one" : Str), ("_law_values" : Str), ("_law_widths" : Str), ("_law_tables" : Str), ("_law_row" : Str), ("_law_change" : Str), ("_law_changed" : Str), ("_law_told" : Str), ("_law_sum" : Str), ("_law_case" : Str), ("law" : Str)], bls := ["isinstance", "int", "bool", "all", "str", "len", "tuple", "zip", "sorted", "any", "list", "range", "max", "min"], cns := [("LETTERS", (.str "abcdefghijklmnopqrstuvwxyz")), ("DIGITS", (.str "0123456789")), ("MOST_LENGTH", (.int 4)), ("MOST_NAME", (.int 6)), ("MOST_ROWS", (.int 40)), ("MOST_PRODUCTS", (.int 2000))],
    exs := [("AnswerError", none), ("BadTables", none), ("BadQuestion", none), ("BadSum", none), ("BadPaper", some "word"), ("NoSuch", none), ("TooFar", none)], sub := [[0, 1, 2, 3, 4, 5, 6], [1], [2], [3], [4], [5], [6]] }
/-- is_integer: value, low, high -/
def d0 : DenS := sRet (xGc (xAnd (xIsi ["int"] (xVar 0)) (xAnd (xNot (xIsi ["bool"] (xVar 0))) (xChain opLe opLe (xVar 1) (xVar 0) (xVar 2)))))
def n0 : Dn := ⟨"is_integer", top 15, 3, ["value", "low", "high"], d0⟩
theorem b0 : BodyOk tx n0 := by
  intro G fe k P w K mg base f cdv A outer s H E h
  show PSs _ _ (tS _ _ _ d0)
  exact (sone_ok (sret_ok (xgc_ok (xand_ok (h.toOk.isi 0 1 (h.toOk.v 0) boot_int) (xand_ok (xnot_ok (h.toOk.isi 0 2 (h.toOk.v 0) boot_bool)) (pe_one (h.toOk.chain h.toOk.oLtE h.toOk.oLtE (h.toOk.v 1) (h.toOk.v 0) (h.toOk.v 2))))))))
theorem ok0 : DefOk tx n0 := ⟨by decide, ⟨rfl, rfl, rfl, by decide +kernel, rfl, by decide +kernel, by decide +kernel⟩, b0⟩
/-- is_value: value, sign -/
def d1 : DenS := sSeq (sIf (tGc (tOo (tNt (tVal (xIsi ["str"] (xVar 0)))) (tNt (tB (xChain opLe opLe (xLit (.int 1)) (xCallF bLen (aCons (xVar 0) (aNil))) (xLit (.int 4))))))) (sRet (xGc (xLit (.bl false)))) (sNil)) (sRet (xGc (xCallF bAll (aCons (xLc (iAny (xVar 0)) (.nm 1) (tYesD) (xGc (xOr (xBin opIn (xVar 1) (xLit (.str "abcdefghijklmnopqrstuvwxyz"))) (xBin opIn (xVar 1) (xLit (.str "0123456789"))))) [1]) (aNil)))))
def n1 : Dn := ⟨"is_value", top 16, 1, ["value", "sign"], d1⟩
theorem b1 : BodyOk tx n1 := by
  intro G fe k P w K mg base f cdv A outer s H E h
  show PSs _ _ (tS _ _ _ d1)
  exact (sseq_ok (sif_ok (tgc_ok ((too_ok (h.toOk.tn (h.toOk.tv (h.toOk.isi 0 4 (h.toOk.v 0) boot_str))) (too1_ok (h.toOk.tn (h.toOk.tchain h.toOk.oLtE h.toOk.oLtE (h.toOk.int) (h.toOk.bi (bLen_ok h.toOk.on) 5 (h.toOk.ac (h.toOk.v 0) (anil_ok)) PySem.boot_len) (h.toOk.cn 2))))).pt)) (sone_ok (sret_ok (xgc_ok (h.toOk.bo)))) (snil_ok)) (sone_ok (sret_ok (xgc_ok (h.toOk.bi (bAll_ok h.toOk.on h.toOk.calm) 3 (h.toOk.ac (h.toOk.lc (own := [("sign", 1)]) (blkOk_by (by kernel_rfl)) (h.toOk.it (h.toOk.v 0)) (fun _ _ _ _ _ h1 => h1.nm 1) (fun _ _ _ _ _ h1 => tyes_ok) (fun _ _ _ _ _ h1 => xgc_ok (xor_ok (h1.in_ (h1.v 1) (h1.cn 0)) (pe_one (h1.in_ (h1.v 1) (h1.cn 1)))))) (anil_ok)) (by decide +kernel))))))
theorem ok1 : DefOk tx n1 := ⟨by decide, ⟨rfl, rfl, rfl, by decide +kernel, rfl, by decide +kernel, by decide +kernel⟩, b1⟩
/-- is_name: value, sign -/
def d2 : DenS := sSeq (sIf (tGc (tOo (tNt (tVal (xIsi ["str"] (xVar 0)))) (tNt (tB (xChain opLe opLe (xLit (.int 1)) (xCallF bLen (aCons (xVar 0) (aNil))) (xLit (.int 6))))))) (sRet (xGc (xLit (.bl false)))) (sNil)) (sRet (xGc (xCallF bAll (aCons (xLc (iAny (xVar 0)) (.nm 1) (tYesD) (xGc (xBin opIn (xVar 1) (xLit (.str "abcdefghijklmnopqrstuvwxyz")))) [1]) (aNil)))))
def n2 : Dn := ⟨"is_name", top 17, 1, ["value", "sign"], d2⟩
theorem b2 : BodyOk tx n2 := by
  intro G fe k P w K mg base f cdv A outer s H E h
  show PSs _ _ (tS _ _ _ d2)
  exact (sseq_ok (sif_ok (tgc_ok ((too_ok (h.toOk.tn (h.toOk.tv (h.toOk.isi 0 4 (h.toOk.v 0) boot_str))) (too1_ok (h.toOk.tn (h.toOk.tchain h.toOk.oLtE h.toOk.oLtE (h.toOk.int) (h.toOk.bi (bLen_ok h.toOk.on) 5 (h.toOk.ac (h.toOk.v 0) (anil_ok)) PySem.boot_len) (h.toOk.cn 3))))).pt)) (sone_ok (sret_ok (xgc_ok (h.toOk.bo)))) (snil_ok)) (sone_ok (sret_ok (xgc_ok (h.toOk.bi (bAll_ok h.toOk.on h.toOk.calm) 3 (h.toOk.ac (h.toOk.lc (own := [("sign", 1)]) (blkOk_by (by kernel_rfl)) (h.toOk.it (h.toOk.v 0)) (fun _ _ _ _ _ h1 => h1.nm 1) (fun _ _ _ _ _ h1 => tyes_ok) (fun _ _ _ _ _ h1 => xgc_ok (h1.in_ (h1.v 1) (h1.cn 0)))) (anil_ok)) (by decide +kernel))))))
theorem ok2 : DefOk tx n2 := ⟨by decide, ⟨rfl, rfl, rfl, by decide +kernel, rfl, by decide +kernel, by decide +kernel⟩, b2⟩
/-- is_row: value, one -/
def d3 : DenS := sSeq (sIf (tGc (tOo (tNt (tVal (xIsi ["tuple"] (xVar 0)))) (tOo (tB (xBin opNe (xCallF bLen (aCons (xVar 0) (aNil))) (xLit (.int 2)))) (tOo (tNt (tVal (xCall 2 (aCons (xBin opIx (xVar 0) (xLit (.int 0))) (aNil))))) (tNt (tVal (xIsi ["tuple"] (xBin opIx (xVar 0) (xLit (.int 1)))))))))) (sRet (xGc (xLit (.bl false)))) (sNil)) (sRet (xGc (xAnd (xChain opLe opLe (xLit (.int 1)) (xCallF bLen (aCons (xBin opIx (xVar 0) (xLit (.int 1))) (aNil))) (xLit (.int 4))) (xCallF bAll (aCons (xLc (iAny (xBin opIx (xVar 0) (xLit (.int 1)))) (.nm 1) (tYesD) (xGc (xCall 1 (aCons (xVar 1) (aNil)))) [1]) (aNil))))))
def n3 : Dn := ⟨"is_row", top 18, 1, ["value", "one"], d3⟩
theorem b3 : BodyOk tx n3 := by
  intro G fe k P w K mg base f cdv A outer s H E h
  show PSs _ _ (tS _ _ _ d3)
  exact (sseq_ok (sif_ok (tgc_ok ((too_ok (h.toOk.tn (h.toOk.tv (h.toOk.isi 0 6 (h.toOk.v 0) boot_tuple))) (too_ok (h.toOk.tne (h.toOk.bi (bLen_ok h.toOk.on) 5 (h.toOk.ac (h.toOk.v 0) (anil_ok)) PySem.boot_len) (h.toOk.int)) (too_ok (h.toOk.tn (h.toOk.tv (h.toOk.call 2 (h.toOk.ac (h.toOk.ix (h.toOk.v 0) (h.toOk.int)) (anil_ok))))) (too1_ok (h.toOk.tn (h.toOk.tv (h.toOk.isi 0 6 (h.toOk.ix (h.toOk.v 0) (h.toOk.int)) boot_tuple))))))).pt)) (sone_ok (sret_ok (xgc_ok (h.toOk.bo)))) (snil_ok)) (sone_ok (sret_ok (xgc_ok (xand_ok (h.toOk.chain h.toOk.oLtE h.toOk.oLtE (h.toOk.int) (h.toOk.bi (bLen_ok h.toOk.on) 5 (h.toOk.ac (h.toOk.ix (h.toOk.v 0) (h.toOk.int)) (anil_ok)) PySem.boot_len) (h.toOk.cn 2)) (pe_one (h.toOk.bi (bAll_ok h.toOk.on h.toOk.calm) 3 (h.toOk.ac (h.toOk.lc (own := [("one", 1)]) (blkOk_by (by kernel_rfl)) (h.toOk.it (h.toOk.ix (h.toOk.v 0) (h.toOk.int))) (fun _ _ _ _ _ h1 => h1.nm 1) (fun _ _ _ _ _ h1 => tyes_ok) (fun _ _ _ _ _ h1 => xgc_ok (h1.call 1 (h1.ac (h1.v 1) (anil_ok))))) (anil_ok)) (by decide +kernel))))))))
theorem ok3 : DefOk tx n3 := ⟨by decide, ⟨rfl, rfl, rfl, by decide +kernel, rfl, by decide +kernel, by decide +kernel⟩, b3⟩
/-- are_ascending: values, one, other -/
def d4 : DenS := sRet (xGc (xCallF bAll (aCons (xLc (iZipD (aCons (xVar 0) (aCons (xSl (xVar 0) (oSome (xLit (.int 1))) (oNone)) (aNil)))) (.tp [.nm 1, .nm 2]) (tYesD) (xGc (xBin opLt (xVar 1) (xVar 2))) [1, 2]) (aNil))))
def n4 : Dn := ⟨"are_ascending", top 19, 1, ["values", "one", "other"], d4⟩
theorem b4 : BodyOk tx n4 := by
  intro G fe k P w K mg base f cdv A outer s H E h
  show PSs _ _ (tS _ _ _ d4)
  exact (sone_ok (sret_ok (xgc_ok (h.toOk.bi (bAll_ok h.toOk.on h.toOk.calm) 3 (h.toOk.ac (h.toOk.lc (own := [("one", 1), ("other", 2)]) (blkOk_by (by kernel_rfl)) (h.toOk.zp 7 (h.toOk.ac (h.toOk.v 0) (h.toOk.ac (h.toOk.sl (h.toOk.v 0) (osome_ok (h.toOk.int)) (onone_ok)) (anil_ok)))) (fun _ _ _ _ _ h1 => h1.tpl (h1.pc (h1.nm 1) (h1.pc (h1.nm 2) (pnil_ok)))) (fun _ _ _ _ _ h1 => tyes_ok) (fun _ _ _ _ _ h1 => xgc_ok (h1.lt (h1.v 1) (h1.v 2)))) (anil_ok)) (by decide +kernel)))))
theorem ok4 : DefOk tx n4 := ⟨by decide, ⟨rfl, rfl, rfl, by decide +kernel, rfl, by decide +kernel, by decide +kernel⟩, b4⟩
/-- are_fitting: pairs, known, name, things -/
def d5 : DenS := sSeq (sSet 1 (xGc (xEmpty))) (sSeq (sFor (iAny (xVar 0)) (.tp [.nm 2, .nm 3]) (sIf (tGc (tB (xBin opNe (xMeth [("dict", fSetd)] (xVar 1) (aCons (xVar 2) (aCons (xCallF bLen (aCons (xVar 3) (aNil))) (aNil)))) (xCallF bLen (aCons (xVar 3) (aNil)))))) (sRet (xGc (xLit (.bl false)))) (sNil))) (sRet (xGc (xLit (.bl true)))))
def n5 : Dn := ⟨"are_fitting", top 20, 1, ["pairs", "known", "name", "things"], d5⟩
theorem b5 : BodyOk tx n5 := by
  intro G fe k P w K mg base f cdv A outer s H E h
  show PSs _ _ (tS _ _ _ d5)
  exact (sseq_ok (h.set 1 (xgc_ok (xempty_ok))) (sseq_ok (h.for_ (h.toOk.it (h.toOk.v 0)) (h.toOk.tpl (h.toOk.pc (h.toOk.nm 2) (h.toOk.pc (h.toOk.nm 3) (pnil_ok)))) (sone_ok (sif_ok (tgc_ok (h.toOk.tne (h.toOk.mt1 (fSetd_ok h.toOk.on h.toOk.u64) (h.toOk.v 1) (h.toOk.ac (h.toOk.v 2) (h.toOk.ac (h.toOk.bi (bLen_ok h.toOk.on) 5 (h.toOk.ac (h.toOk.v 3) (anil_ok)) PySem.boot_len) (anil_ok)))) (h.toOk.bi (bLen_ok h.toOk.on) 5 (h.toOk.ac (h.toOk.v 3) (anil_ok)) PySem.boot_len))) (sone_ok (sret_ok (xgc_ok (h.toOk.bo)))) (snil_ok)))) (sone_ok (sret_ok (xgc_ok (h.toOk.bo))))))
theorem ok5 : DefOk tx n5 := ⟨by decide, ⟨rfl, rfl, rfl, by decide +kernel, rfl, by decide +kernel, by decide +kernel⟩, b5⟩
/-- is_tables: value, row -/
def d6 : DenS := sSeq (sIf (tGc (tOo (tNt (tVal (xIsi ["tuple"] (xVar 0)))) (tOo (tB (xBin opNe (xCallF bLen (aCons (xVar 0) (aNil))) (xLit (.int 2)))) (tOo (tB (xBin opNe (xBin opIx (xVar 0) (xLit (.int 0))) (xLit (.str "tables")))) (tNt (tVal (xIsi ["tuple"] (xBin opIx (xVar 0) (xLit (.int 1)))))))))) (sRet (xGc (xLit (.bl false)))) (sNil)) (sSeq (sIf (tGc (tOo (tB (xBin opGt (xCallF bLen (aCons (xBin opIx (xVar 0) (xLit (.int 1))) (aNil))) (xLit (.int 40)))) (tNt (tVal (xCallF bAll (aCons (xLc (iAny (xBin opIx (xVar 0) (xLit (.int 1)))) (.nm 1) (tYesD) (xGc (xCall 3 (aCons (xVar 1) (aNil)))) [1]) (aNil))))))) (sRet (xGc (xLit (.bl false)))) (sNil)) (sRet (xGc (xAnd (xCall 4 (aCons (xBin opIx (xVar 0) (xLit (.int 1))) (aNil))) (xCall 5 (aCons (xBin opIx (xVar 0) (xLit (.int 1))) (aNil)))))))
def n6 : Dn := ⟨"is_tables", top 21, 1, ["value", "row"], d6⟩
theorem b6 : BodyOk tx n6 := by
  intro G fe k P w K mg base f cdv A outer s H E h
  show PSs _ _ (tS _ _ _ d6)
  exact (sseq_ok (sif_ok (tgc_ok ((too_ok (h.toOk.tn (h.toOk.tv (h.toOk.isi 0 6 (h.toOk.v 0) boot_tuple))) (too_ok (h.toOk.tne (h.toOk.bi (bLen_ok h.toOk.on) 5 (h.toOk.ac (h.toOk.v 0) (anil_ok)) PySem.boot_len) (h.toOk.int)) (too_ok (h.toOk.tne (h.toOk.ix (h.toOk.v 0) (h.toOk.int)) (h.toOk.str)) (too1_ok (h.toOk.tn (h.toOk.tv (h.toOk.isi 0 6 (h.toOk.ix (h.toOk.v 0) (h.toOk.int)) boot_tuple))))))).pt)) (sone_ok (sret_ok (xgc_ok (h.toOk.bo)))) (snil_ok)) (sseq_ok (sif_ok (tgc_ok ((too_ok (h.toOk.tgt (h.toOk.bi (bLen_ok h.toOk.on) 5 (h.toOk.ac (h.toOk.ix (h.toOk.v 0) (h.toOk.int)) (anil_ok)) PySem.boot_len) (h.toOk.cn 4)) (too1_ok (h.toOk.tn (h.toOk.tv (h.toOk.bi (bAll_ok h.toOk.on h.toOk.calm) 3 (h.toOk.ac (h.toOk.lc (own := [("row", 1)]) (blkOk_by (by kernel_rfl)) (h.toOk.it (h.toOk.ix (h.toOk.v 0) (h.toOk.int))) (fun _ _ _ _ _ h1 => h1.nm 1) (fun _ _ _ _ _ h1 => tyes_ok) (fun _ _ _ _ _ h1 => xgc_ok (h1.call 3 (h1.ac (h1.v 1) (anil_ok))))) (anil_ok)) (by decide +kernel)))))).pt)) (sone_ok (sret_ok (xgc_ok (h.toOk.bo)))) (snil_ok)) (sone_ok (sret_ok (xgc_ok (xand_ok (h.toOk.call 4 (h.toOk.ac (h.toOk.ix (h.toOk.v 0) (h.toOk.int)) (anil_ok))) (pe_one (h.toOk.call 5 (h.toOk.ac (h.toOk.ix (h.toOk.v 0) (h.toOk.int)) (anil_ok))))))))))
theorem ok6 : DefOk tx n6 := ⟨by decide, ⟨rfl, rfl, rfl, by decide +kernel, rfl, by decide +kernel, by decide +kernel⟩, b6⟩
/-- check_tables: tables -/
def d7 : DenS := sIf (tGc (tNt (tVal (xCall 6 (aCons (xVar 0) (aNil)))))) (sRaise0 1) (sNil)
def n7 : Dn := ⟨"check_tables", top 22, 1, ["tables"], d7⟩
theorem b7 : BodyOk tx n7 := by
  intro G fe k P w K mg base f cdv A outer s H E h
  show PSs _ _ (tS _ _ _ d7)
  exact (sone_ok (sif_ok (tgc_ok (h.toOk.tn (h.toOk.tv (h.toOk.call 6 (h.toOk.ac (h.toOk.v 0) (anil_ok)))))) (sone_ok (h.raise0 1)) (snil_ok)))
theorem ok7 : DefOk tx n7 := ⟨by decide, ⟨rfl, rfl, rfl, by decide +kernel, rfl, by decide +kernel, by decide +kernel⟩, b7⟩
/-- are_counted: value, pair -/
def d8 : DenS := sSeq (sIf (tGc (tNt (tVal (xIsi ["tuple"] (xVar 0))))) (sRet (xGc (xLit (.bl false)))) (sNil)) (sSeq (sFor (iAny (xVar 0)) (.nm 1) (sSeq (sIf (tGc (tOo (tNt (tVal (xIsi ["tuple"] (xVar 1)))) (tB (xBin opNe (xCallF bLen (aCons (xVar 1) (aNil))) (xLit (.int 2)))))) (sRet (xGc (xLit (.bl false)))) (sNil)) (sIf (tGc (tOo (tNt (tVal (xIsi ["int"] (xBin opIx (xVar 1) (xLit (.int 1)))))) (tOo (tVal (xIsi ["bool"] (xBin opIx (xVar 1) (xLit (.int 1))))) (tB (xBin opLt (xBin opIx (xVar 1) (xLit (.int 1))) (xLit (.int 1))))))) (sRet (xGc (xLit (.bl false)))) (sNil)))) (sRet (xGc (xLit (.bl true)))))
def n8 : Dn := ⟨"are_counted", top 24, 1, ["value", "pair"], d8⟩
theorem b8 : BodyOk tx n8 := by
  intro G fe k P w K mg base f cdv A outer s H E h
  show PSs _ _ (tS _ _ _ d8)
  exact (sseq_ok (sif_ok (tgc_ok (h.toOk.tn (h.toOk.tv (h.toOk.isi 0 6 (h.toOk.v 0) boot_tuple)))) (sone_ok (sret_ok (xgc_ok (h.toOk.bo)))) (snil_ok)) (sseq_ok (h.for_ (h.toOk.it (h.toOk.v 0)) (h.toOk.nm 1) (sseq_ok (sif_ok (tgc_ok ((too_ok (h.toOk.tn (h.toOk.tv (h.toOk.isi 0 6 (h.toOk.v 1) boot_tuple))) (too1_ok (h.toOk.tne (h.toOk.bi (bLen_ok h.toOk.on) 5 (h.toOk.ac (h.toOk.v 1) (anil_ok)) PySem.boot_len) (h.toOk.int)))).pt)) (sone_ok (sret_ok (xgc_ok (h.toOk.bo)))) (snil_ok)) (sone_ok (sif_ok (tgc_ok ((too_ok (h.toOk.tn (h.toOk.tv (h.toOk.isi 0 1 (h.toOk.ix (h.toOk.v 1) (h.toOk.int)) boot_int))) (too_ok (h.toOk.tv (h.toOk.isi 0 2 (h.toOk.ix (h.toOk.v 1) (h.toOk.int)) boot_bool)) (too1_ok (h.toOk.tlt (h.toOk.ix (h.toOk.v 1) (h.toOk.int)) (h.toOk.int))))).pt)) (sone_ok (sret_ok (xgc_ok (h.toOk.bo)))) (snil_ok))))) (sone_ok (sret_ok (xgc_ok (h.toOk.bo))))))
theorem ok8 : DefOk tx n8 := ⟨by decide, ⟨rfl, rfl, rfl, by decide +kernel, rfl, by decide +kernel, by decide +kernel⟩, b8⟩
/-- is_sum: value, many, product, _, row -/
def d9 : DenS := sSeq (sIf (tGc (tOo (tNt (tVal (xCall 0 (aCons (xVar 1) (aCons (xLit (.int 0)) (aCons (xLit (.int 40)) (aNil))))))) (tOo (tNt (tVal (xCall 8 (aCons (xVar 0) (aNil))))) (tB (xBin opGt (xCallF bLen (aCons (xVar 0) (aNil))) (xLit (.int 2000))))))) (sRet (xGc (xLit (.bl false)))) (sNil)) (sSeq (sFor (iAny (xVar 0)) (.tp [.nm 2, .nm 3]) (sSeq (sIf (tGc (tOo (tNt (tVal (xCall 8 (aCons (xVar 2) (aNil))))) (tNt (tVal (xCallF bAll (aCons (xLc (iAny (xVar 2)) (.tp [.nm 4, .nm 3]) (tYesD) (xGc (xCall 0 (aCons (xVar 4) (aCons (xLit (.int 0)) (aCons (xBin opSub (xVar 1) (xLit (.int 1))) (aNil)))))) [4, 3]) (aNil))))))) (sRet (xGc (xLit (.bl false)))) (sNil)) (sIf (tGc (tNt (tVal (xCall 4 (aCons (xLc (iAny (xVar 2)) (.tp [.nm 4, .nm 3]) (tYesD) (xGc (xVar 4)) [4, 3]) (aNil)))))) (sRet (xGc (xLit (.bl false)))) (sNil)))) (sRet (xGc (xCall 4 (aCons (xLc (iAny (xVar 0)) (.tp [.nm 2, .nm 3]) (tYesD) (xGc (xVar 2)) [2, 3]) (aNil))))))
def n9 : Dn := ⟨"is_sum", top 25, 2, ["value", "many", "product", "_", "row"], d9⟩
theorem b9 : BodyOk tx n9 := by
  intro G fe k P w K mg base f cdv A outer s H E h
  show PSs _ _ (tS _ _ _ d9)
  exact (sseq_ok (sif_ok (tgc_ok ((too_ok (h.toOk.tn (h.toOk.tv (h.toOk.call 0 (h.toOk.ac (h.toOk.v 1) (h.toOk.ac (h.toOk.int) (h.toOk.ac (h.toOk.cn 4) (anil_ok))))))) (too_ok (h.toOk.tn (h.toOk.tv (h.toOk.call 8 (h.toOk.ac (h.toOk.v 0) (anil_ok))))) (too1_ok (h.toOk.tgt (h.toOk.bi (bLen_ok h.toOk.on) 5 (h.toOk.ac (h.toOk.v 0) (anil_ok)) PySem.boot_len) (h.toOk.cn 5))))).pt)) (sone_ok (sret_ok (xgc_ok (h.toOk.bo)))) (snil_ok)) (sseq_ok (h.for_ (h.toOk.it (h.toOk.v 0)) (h.toOk.tpl (h.toOk.pc (h.toOk.nm 2) (h.toOk.pc (h.toOk.nm 3) (pnil_ok)))) (sseq_ok (sif_ok (tgc_ok ((too_ok (h.toOk.tn (h.toOk.tv (h.toOk.call 8 (h.toOk.ac (h.toOk.v 2) (anil_ok))))) (too1_ok (h.toOk.tn (h.toOk.tv (h.toOk.bi (bAll_ok h.toOk.on h.toOk.calm) 3 (h.toOk.ac (h.toOk.lc (own := [("row", 4), ("_", 3)]) (blkOk_by (by kernel_rfl)) (h.toOk.it (h.toOk.v 2)) (fun _ _ _ _ _ h3 => h3.tpl (h3.pc (h3.nm 4) (h3.pc (h3.nm 3) (pnil_ok)))) (fun _ _ _ _ _ h3 => tyes_ok) (fun _ _ _ _ _ h3 => xgc_ok (h3.call 0 (h3.ac (h3.v 4) (h3.ac (h3.int) (h3.ac (h3.sub (h3.v 1) (h3.int)) (anil_ok))))))) (anil_ok)) (by decide +kernel)))))).pt)) (sone_ok (sret_ok (xgc_ok (h.toOk.bo)))) (snil_ok)) (sone_ok (sif_ok (tgc_ok (h.toOk.tn (h.toOk.tv (h.toOk.call 4 (h.toOk.ac (h.toOk.lc (own := [("row", 4), ("_", 3)]) (blkOk_by (by kernel_rfl)) (h.toOk.it (h.toOk.v 2)) (fun _ _ _ _ _ h2 => h2.tpl (h2.pc (h2.nm 4) (h2.pc (h2.nm 3) (pnil_ok)))) (fun _ _ _ _ _ h2 => tyes_ok) (fun _ _ _ _ _ h2 => xgc_ok (h2.v 4))) (anil_ok)))))) (sone_ok (sret_ok (xgc_ok (h.toOk.bo)))) (snil_ok))))) (sone_ok (sret_ok (xgc_ok (h.toOk.call 4 (h.toOk.ac (h.toOk.lc (own := [("product", 2), ("_", 3)]) (blkOk_by (by kernel_rfl)) (h.toOk.it (h.toOk.v 0)) (fun _ _ _ _ _ h1 => h1.tpl (h1.pc (h1.nm 2) (h1.pc (h1.nm 3) (pnil_ok)))) (fun _ _ _ _ _ h1 => tyes_ok) (fun _ _ _ _ _ h1 => xgc_ok (h1.v 2))) (anil_ok))))))))
theorem ok9 : DefOk tx n9 := ⟨by decide, ⟨rfl, rfl, rfl, by decide +kernel, rfl, by decide +kernel, by decide +kernel⟩, b9⟩
/-- are_rows: value, row -/
def d10 : DenS := sRet (xGc (xAnd (xIsi ["tuple"] (xVar 0)) (xAnd (xCallF bAll (aCons (xLc (iAny (xVar 0)) (.nm 1) (tYesD) (xGc (xCall 3 (aCons (xVar 1) (aNil)))) [1]) (aNil))) (xCall 4 (aCons (xVar 0) (aNil))))))
def n10 : Dn := ⟨"are_rows", top 27, 1, ["value", "row"], d10⟩
theorem b10 : BodyOk tx n10 := by
  intro G fe k P w K mg base f cdv A outer s H E h
  show PSs _ _ (tS _ _ _ d10)
  exact (sone_ok (sret_ok (xgc_ok (xand_ok (h.toOk.isi 0 6 (h.toOk.v 0) boot_tuple) (xand_ok (h.toOk.bi (bAll_ok h.toOk.on h.toOk.calm) 3 (h.toOk.ac (h.toOk.lc (own := [("row", 1)]) (blkOk_by (by kernel_rfl)) (h.toOk.it (h.toOk.v 0)) (fun _ _ _ _ _ h1 => h1.nm 1) (fun _ _ _ _ _ h1 => tyes_ok) (fun _ _ _ _ _ h1 => xgc_ok (h1.call 3 (h1.ac (h1.v 1) (anil_ok))))) (anil_ok)) (by decide +kernel)) (pe_one (h.toOk.call 4 (h.toOk.ac (h.toOk.v 0) (anil_ok)))))))))
theorem ok10 : DefOk tx n10 := ⟨by decide, ⟨rfl, rfl, rfl, by decide +kernel, rfl, by decide +kernel, by decide +kernel⟩, b10⟩
/-- has_form: value -/
def d11 : DenS := sSeq (sIf (tGc (tOo (tNt (tVal (xIsi ["tuple"] (xVar 0)))) (tOo (tB (xBin opNe (xCallF bLen (aCons (xVar 0) (aNil))) (xLit (.int 3)))) (tOo (tNt (tVal (xIsi ["str"] (xBin opIx (xVar 0) (xLit (.int 0)))))) (tB (xBin opNe (xBin opIx (xVar 0) (xLit (.int 0))) (xLit (.str "change")))))))) (sRet (xGc (xLit (.bl false)))) (sNil)) (sRet (xGc (xAnd (xCall 10 (aCons (xBin opIx (xVar 0) (xLit (.int 1))) (aNil))) (xCall 10 (aCons (xBin opIx (xVar 0) (xLit (.int 2))) (aNil))))))
def n11 : Dn := ⟨"has_form", top 28, 1, ["value"], d11⟩
theorem b11 : BodyOk tx n11 := by
  intro G fe k P w K mg base f cdv A outer s H E h
  show PSs _ _ (tS _ _ _ d11)
  exact (sseq_ok (sif_ok (tgc_ok ((too_ok (h.toOk.tn (h.toOk.tv (h.toOk.isi 0 6 (h.toOk.v 0) boot_tuple))) (too_ok (h.toOk.tne (h.toOk.bi (bLen_ok h.toOk.on) 5 (h.toOk.ac (h.toOk.v 0) (anil_ok)) PySem.boot_len) (h.toOk.int)) (too_ok (h.toOk.tn (h.toOk.tv (h.toOk.isi 0 4 (h.toOk.ix (h.toOk.v 0) (h.toOk.int)) boot_str))) (too1_ok (h.toOk.tne (h.toOk.ix (h.toOk.v 0) (h.toOk.int)) (h.toOk.str)))))).pt)) (sone_ok (sret_ok (xgc_ok (h.toOk.bo)))) (snil_ok)) (sone_ok (sret_ok (xgc_ok (xand_ok (h.toOk.call 10 (h.toOk.ac (h.toOk.ix (h.toOk.v 0) (h.toOk.int)) (anil_ok))) (pe_one (h.toOk.call 10 (h.toOk.ac (h.toOk.ix (h.toOk.v 0) (h.toOk.int)) (anil_ok)))))))))
theorem ok11 : DefOk tx n11 := ⟨by decide, ⟨rfl, rfl, rfl, by decide +kernel, rfl, by decide +kernel, by decide +kernel⟩, b11⟩
/-- goes_with: tables, value, rows, row -/
def d12 : DenS := sSeq (sIf (tGc (tNt (tVal (xCall 11 (aCons (xVar 1) (aNil)))))) (sRet (xGc (xLit (.bl false)))) (sNil)) (sSeq (sSet 2 (xGc (xBin opIx (xVar 0) (xLit (.int 1))))) (sSeq (sIf (tGc (tOo (tNt (tVal (xCallF bAll (aCons (xLc (iAny (xBin opIx (xVar 1) (xLit (.int 1)))) (.nm 3) (tYesD) (xGc (xBin opIn (xVar 3) (xVar 2))) [3]) (aNil))))) (tVal (xCallF bAny (aCons (xLc (iAny (xBin opIx (xVar 1) (xLit (.int 2)))) (.nm 3) (tYesD) (xGc (xBin opIn (xVar 3) (xVar 2))) [3]) (aNil)))))) (sRet (xGc (xLit (.bl false)))) (sNil)) (sRet (xGc (xCall 6 (aCons (xTup (aCons (xLit (.str "tables")) (aCons (xCallF bTuple (aCons (xCallF bSorted (aCons (xBin opAdd (xVar 2) (xBin opIx (xVar 1) (xLit (.int 2)))) (aNil))) (aNil))) (aNil)))) (aNil)))))))
def n12 : Dn := ⟨"goes_with", top 29, 2, ["tables", "value", "rows", "row"], d12⟩
theorem b12 : BodyOk tx n12 := by
  intro G fe k P w K mg base f cdv A outer s H E h
  show PSs _ _ (tS _ _ _ d12)
  exact (sseq_ok (sif_ok (tgc_ok (h.toOk.tn (h.toOk.tv (h.toOk.call 11 (h.toOk.ac (h.toOk.v 1) (anil_ok)))))) (sone_ok (sret_ok (xgc_ok (h.toOk.bo)))) (snil_ok)) (sseq_ok (h.set 2 (xgc_ok (h.toOk.ix (h.toOk.v 0) (h.toOk.int)))) (sseq_ok (sif_ok (tgc_ok ((too_ok (h.toOk.tn (h.toOk.tv (h.toOk.bi (bAll_ok h.toOk.on h.toOk.calm) 3 (h.toOk.ac (h.toOk.lc (own := [("row", 3)]) (blkOk_by (by kernel_rfl)) (h.toOk.it (h.toOk.ix (h.toOk.v 1) (h.toOk.int))) (fun _ _ _ _ _ h1 => h1.nm 3) (fun _ _ _ _ _ h1 => tyes_ok) (fun _ _ _ _ _ h1 => xgc_ok (h1.in_ (h1.v 3) (h1.v 2)))) (anil_ok)) (by decide +kernel)))) (too1_ok (h.toOk.tv (h.toOk.bi (bAny_ok h.toOk.on h.toOk.calm) 9 (h.toOk.ac (h.toOk.lc (own := [("row", 3)]) (blkOk_by (by kernel_rfl)) (h.toOk.it (h.toOk.ix (h.toOk.v 1) (h.toOk.int))) (fun _ _ _ _ _ h2 => h2.nm 3) (fun _ _ _ _ _ h2 => tyes_ok) (fun _ _ _ _ _ h2 => xgc_ok (h2.in_ (h2.v 3) (h2.v 2)))) (anil_ok)) (by decide +kernel))))).pt)) (sone_ok (sret_ok (xgc_ok (h.toOk.bo)))) (snil_ok)) (sone_ok (sret_ok (xgc_ok (h.toOk.call 6 (h.toOk.ac (xtup_ok (h.toOk.ac (h.toOk.str) (h.toOk.ac (h.toOk.ty (bTuple_ok h.toOk.on) 6 (h.toOk.ac (h.toOk.bi (bSorted_ok h.toOk.on h.toOk.calm h.toOk.u64) 8 (h.toOk.ac (h.toOk.add (h.toOk.v 2) (h.toOk.ix (h.toOk.v 1) (h.toOk.int))) (anil_ok)) boot_sorted) (anil_ok)) boot_tuple) (anil_ok)))) (anil_ok)))))))))
theorem ok12 : DefOk tx n12 := ⟨by decide, ⟨rfl, rfl, rfl, by decide +kernel, rfl, by decide +kernel, by decide +kernel⟩, b12⟩
/-- is_change: tables, value -/
def d13 : DenS := sSeq (sExpr (xGc (xCall 7 (aCons (xVar 0) (aNil))))) (sRet (xGc (xCall 12 (aCons (xVar 0) (aCons (xVar 1) (aNil))))))
def n13 : Dn := ⟨"is_change", top 30, 2, ["tables", "value"], d13⟩
theorem b13 : BodyOk tx n13 := by
  intro G fe k P w K mg base f cdv A outer s H E h
  show PSs _ _ (tS _ _ _ d13)
  exact (sseq_ok (sx (xgc_ok (h.toOk.call 7 (h.toOk.ac (h.toOk.v 0) (anil_ok))))) (sone_ok (sret_ok (xgc_ok (h.toOk.call 12 (h.toOk.ac (h.toOk.v 0) (h.toOk.ac (h.toOk.v 1) (anil_ok))))))))
theorem ok13 : DefOk tx n13 := ⟨by decide, ⟨rfl, rfl, rfl, by decide +kernel, rfl, by decide +kernel, by decide +kernel⟩, b13⟩
/-- check_change: tables, change -/
def d14 : DenS := sIf (tGc (tNt (tVal (xCall 12 (aCons (xVar 0) (aCons (xVar 1) (aNil))))))) (sRaise1 4 (aCons (xLit (.str "change")) (aNil))) (sNil)
def n14 : Dn := ⟨"check_change", top 31, 2, ["tables", "change"], d14⟩
theorem b14 : BodyOk tx n14 := by
  intro G fe k P w K mg base f cdv A outer s H E h
  show PSs _ _ (tS _ _ _ d14)
  exact (sone_ok (sif_ok (tgc_ok (h.toOk.tn (h.toOk.tv (h.toOk.call 12 (h.toOk.ac (h.toOk.v 0) (h.toOk.ac (h.toOk.v 1) (anil_ok))))))) (sone_ok (h.raise1 4 (h.toOk.ac (h.toOk.str) (anil_ok)))) (snil_ok)))
theorem ok14 : DefOk tx n14 := ⟨by decide, ⟨rfl, rfl, rfl, by decide +kernel, rfl, by decide +kernel, by decide +kernel⟩, b14⟩
/-- changed_by: tables, change, stay, row -/
def d15 : DenS := sSeq (sSet 2 (xLc (iAny (xBin opIx (xVar 0) (xLit (.int 1)))) (.nm 3) (tGc (tB (xBin opNotIn (xVar 3) (xBin opIx (xVar 1) (xLit (.int 1)))))) (xGc (xVar 3)) [3])) (sRet (xGc (xTup (aCons (xLit (.str "tables")) (aCons (xCallF bTuple (aCons (xCallF bSorted (aCons (xBin opAdd (xVar 2) (xCallF bList (aCons (xBin opIx (xVar 1) (xLit (.int 2))) (aNil)))) (aNil))) (aNil))) (aNil))))))
def n15 : Dn := ⟨"changed_by", top 32, 2, ["tables", "change", "stay", "row"], d15⟩
theorem b15 : BodyOk tx n15 := by
  intro G fe k P w K mg base f cdv A outer s H E h
  show PSs _ _ (tS _ _ _ d15)
  exact (sseq_ok (h.setLc (own := [("row", 3)]) 2 (blkOk_by (by kernel_rfl)) (h.toOk.it (h.toOk.ix (h.toOk.v 0) (h.toOk.int))) (fun _ _ _ _ _ h1 => h1.nm 3) (fun _ _ _ _ _ h1 => tone_ok (tgc_ok (h1.tnin (h1.v 3) (h1.ix (h1.v 1) (h1.int))))) (fun _ _ _ _ _ h1 => xgc_ok (h1.v 3)) (sw_true rfl rfl rfl (by decide +kernel))) (sone_ok (sret_ok (xgc_ok (xtup_ok (h.toOk.ac (h.toOk.str) (h.toOk.ac (h.toOk.ty (bTuple_ok h.toOk.on) 6 (h.toOk.ac (h.toOk.bi (bSorted_ok h.toOk.on h.toOk.calm h.toOk.u64) 8 (h.toOk.ac (h.toOk.add (h.toOk.v 2) (h.toOk.ty (bList_ok h.toOk.on h.toOk.calm) 10 (h.toOk.ac (h.toOk.ix (h.toOk.v 1) (h.toOk.int)) (anil_ok)) boot_list)) (anil_ok)) boot_sorted) (anil_ok)) boot_tuple) (anil_ok))))))))
theorem ok15 : DefOk tx n15 := ⟨by decide, ⟨rfl, rfl, rfl, by decide +kernel, rfl, by decide +kernel, by decide +kernel⟩, b15⟩
/-- changed: tables, change -/
def d16 : DenS := sSeq (sExpr (xGc (xCall 7 (aCons (xVar 0) (aNil))))) (sSeq (sExpr (xGc (xCall 14 (aCons (xVar 0) (aCons (xVar 1) (aNil)))))) (sRet (xGc (xCall 15 (aCons (xVar 0) (aCons (xVar 1) (aNil)))))))
def n16 : Dn := ⟨"changed", top 33, 2, ["tables", "change"], d16⟩
theorem b16 : BodyOk tx n16 := by
  intro G fe k P w K mg base f cdv A outer s H E h
  show PSs _ _ (tS _ _ _ d16)
  exact (sseq_ok (sx (xgc_ok (h.toOk.call 7 (h.toOk.ac (h.toOk.v 0) (anil_ok))))) (sseq_ok (sx (xgc_ok (h.toOk.call 14 (h.toOk.ac (h.toOk.v 0) (h.toOk.ac (h.toOk.v 1) (anil_ok)))))) (sone_ok (sret_ok (xgc_ok (h.toOk.call 15 (h.toOk.ac (h.toOk.v 0) (h.toOk.ac (h.toOk.v 1) (anil_ok)))))))))
theorem ok16 : DefOk tx n16 := ⟨by decide, ⟨rfl, rfl, rfl, by decide +kernel, rfl, by decide +kernel, by decide +kernel⟩, b16⟩
/-- undone: change -/
def d17 : DenS := sSeq (sIf (tGc (tNt (tVal (xCall 11 (aCons (xVar 0) (aNil)))))) (sRaise1 4 (aCons (xLit (.str "change")) (aNil))) (sNil)) (sRet (xGc (xTup (aCons (xLit (.str "change")) (aCons (xBin opIx (xVar 0) (xLit (.int 2))) (aCons (xBin opIx (xVar 0) (xLit (.int 1))) (aNil)))))))
def n17 : Dn := ⟨"undone", top 34, 1, ["change"], d17⟩
theorem b17 : BodyOk tx n17 := by
  intro G fe k P w K mg base f cdv A outer s H E h
  show PSs _ _ (tS _ _ _ d17)
  exact (sseq_ok (sif_ok (tgc_ok (h.toOk.tn (h.toOk.tv (h.toOk.call 11 (h.toOk.ac (h.toOk.v 0) (anil_ok)))))) (sone_ok (h.raise1 4 (h.toOk.ac (h.toOk.str) (anil_ok)))) (snil_ok)) (sone_ok (sret_ok (xgc_ok (xtup_ok (h.toOk.ac (h.toOk.str) (h.toOk.ac (h.toOk.ix (h.toOk.v 0) (h.toOk.int)) (h.toOk.ac (h.toOk.ix (h.toOk.v 0) (h.toOk.int)) (anil_ok)))))))))
theorem ok17 : DefOk tx n17 := ⟨by decide, ⟨rfl, rfl, rfl, by decide +kernel, rfl, by decide +kernel, by decide +kernel⟩, b17⟩
/-- both: tables, change, other, between, after, out, come, found, row -/
def d18 : DenS := sSeq (sExpr (xGc (xCall 7 (aCons (xVar 0) (aNil))))) (sSeq (sExpr (xGc (xCall 14 (aCons (xVar 0) (aCons (xVar 1) (aNil)))))) (sSeq (sSet 3 (xGc (xCall 15 (aCons (xVar 0) (aCons (xVar 1) (aNil)))))) (sSeq (sExpr (xGc (xCall 14 (aCons (xVar 3) (aCons (xVar 2) (aNil)))))) (sSeq (sSet 4 (xGc (xCall 15 (aCons (xVar 3) (aCons (xVar 2) (aNil)))))) (sSeq (sSet 5 (xGc (xCallF bTuple (aCons (xLc (iAny (xBin opIx (xVar 0) (xLit (.int 1)))) (.nm 8) (tGc (tB (xBin opNotIn (xVar 8) (xBin opIx (xVar 4) (xLit (.int 1)))))) (xGc (xVar 8)) [8]) (aNil))))) (sSeq (sSet 6 (xGc (xCallF bTuple (aCons (xLc (iAny (xBin opIx (xVar 4) (xLit (.int 1)))) (.nm 8) (tGc (tB (xBin opNotIn (xVar 8) (xBin opIx (xVar 0) (xLit (.int 1)))))) (xGc (xVar 8)) [8]) (aNil))))) (sSeq (sSet 7 (xGc (xTup (aCons (xLit (.str "change")) (aCons (xVar 5) (aCons (xVar 6) (aNil))))))) (sSeq (sIf (tGc (tNt (tVal (xCall 12 (aCons (xVar 0) (aCons (xVar 7) (aNil))))))) (sRaise0 5) (sNil)) (sRet (xGc (xVar 7)))))))))))
def n18 : Dn := ⟨"both", top 35, 3, ["tables", "change", "other", "between", "after", "out", "come", "found", "row"], d18⟩
theorem b18 : BodyOk tx n18 := by
  intro G fe k P w K mg base f cdv A outer s H E h
  show PSs _ _ (tS _ _ _ d18)
  exact (sseq_ok (sx (xgc_ok (h.toOk.call 7 (h.toOk.ac (h.toOk.v 0) (anil_ok))))) (sseq_ok (sx (xgc_ok (h.toOk.call 14 (h.toOk.ac (h.toOk.v 0) (h.toOk.ac (h.toOk.v 1) (anil_ok)))))) (sseq_ok (h.set 3 (xgc_ok (h.toOk.call 15 (h.toOk.ac (h.toOk.v 0) (h.toOk.ac (h.toOk.v 1) (anil_ok)))))) (sseq_ok (sx (xgc_ok (h.toOk.call 14 (h.toOk.ac (h.toOk.v 3) (h.toOk.ac (h.toOk.v 2) (anil_ok)))))) (sseq_ok (h.set 4 (xgc_ok (h.toOk.call 15 (h.toOk.ac (h.toOk.v 3) (h.toOk.ac (h.toOk.v 2) (anil_ok)))))) (sseq_ok (h.set 5 (xgc_ok (h.toOk.ty (bTuple_ok h.toOk.on) 6 (h.toOk.ac (h.toOk.lc (own := [("row", 8)]) (blkOk_by (by kernel_rfl)) (h.toOk.it (h.toOk.ix (h.toOk.v 0) (h.toOk.int))) (fun _ _ _ _ _ h2 => h2.nm 8) (fun _ _ _ _ _ h2 => tone_ok (tgc_ok (h2.tnin (h2.v 8) (h2.ix (h2.v 4) (h2.int))))) (fun _ _ _ _ _ h2 => xgc_ok (h2.v 8))) (anil_ok)) boot_tuple))) (sseq_ok (h.set 6 (xgc_ok (h.toOk.ty (bTuple_ok h.toOk.on) 6 (h.toOk.ac (h.toOk.lc (own := [("row", 8)]) (blkOk_by (by kernel_rfl)) (h.toOk.it (h.toOk.ix (h.toOk.v 4) (h.toOk.int))) (fun _ _ _ _ _ h1 => h1.nm 8) (fun _ _ _ _ _ h1 => tone_ok (tgc_ok (h1.tnin (h1.v 8) (h1.ix (h1.v 0) (h1.int))))) (fun _ _ _ _ _ h1 => xgc_ok (h1.v 8))) (anil_ok)) boot_tuple))) (sseq_ok (h.set 7 (xgc_ok (xtup_ok (h.toOk.ac (h.toOk.str) (h.toOk.ac (h.toOk.v 5) (h.toOk.ac (h.toOk.v 6) (anil_ok))))))) (sseq_ok (sif_ok (tgc_ok (h.toOk.tn (h.toOk.tv (h.toOk.call 12 (h.toOk.ac (h.toOk.v 0) (h.toOk.ac (h.toOk.v 7) (anil_ok))))))) (sone_ok (h.raise0 5)) (snil_ok)) (sone_ok (sret_ok (xgc_ok (h.toOk.v 7)))))))))))))
theorem ok18 : DefOk tx n18 := ⟨by decide, ⟨rfl, rfl, rfl, by decide +kernel, rfl, by decide +kernel, by decide +kernel⟩, b18⟩
/-- numbers_behind: tables, change, after, row -/
def d19 : DenS := sSeq (sSet 2 (xGc (xBin opIx (xCall 15 (aCons (xVar 0) (aCons (xVar 1) (aNil)))) (xLit (.int 1))))) (sRet (xGc (xCallF bTuple (aCons (xLc (iAny (xBin opIx (xVar 0) (xLit (.int 1)))) (.nm 3) (tYesD) (xGc (xIf (tB (xBin opIn (xVar 3) (xVar 2))) (xMeth [("list", fIndexL), ("tuple", fIndexT)] (xVar 2) (aCons (xVar 3) (aNil))) (xLit .non))) [3]) (aNil)))))
def n19 : Dn := ⟨"numbers_behind", top 36, 2, ["tables", "change", "after", "row"], d19⟩
theorem b19 : BodyOk tx n19 := by
  intro G fe k P w K mg base f cdv A outer s H E h
  show PSs _ _ (tS _ _ _ d19)
  exact (sseq_ok (h.set 2 (xgc_ok (h.toOk.ix (h.toOk.call 15 (h.toOk.ac (h.toOk.v 0) (h.toOk.ac (h.toOk.v 1) (anil_ok)))) (h.toOk.int)))) (sone_ok (sret_ok (xgc_ok (h.toOk.ty (bTuple_ok h.toOk.on) 6 (h.toOk.ac (h.toOk.lc (own := [("row", 3)]) (blkOk_by (by kernel_rfl)) (h.toOk.it (h.toOk.ix (h.toOk.v 0) (h.toOk.int))) (fun _ _ _ _ _ h1 => h1.nm 3) (fun _ _ _ _ _ h1 => tyes_ok) (fun _ _ _ _ _ h1 => xgc_ok (xif_ok (h1.tin_ (h1.v 3) (h1.v 2)) (h1.mt2 (fIndexL_ok h1.on h1.u64) (fIndexT_ok h1.on h1.u64) (h1.v 2) (h1.ac (h1.v 3) (anil_ok))) (h1.non)))) (anil_ok)) boot_tuple)))))
theorem ok19 : DefOk tx n19 := ⟨by decide, ⟨rfl, rfl, rfl, by decide +kernel, rfl, by decide +kernel, by decide +kernel⟩, b19⟩
/-- moved: tables, change -/
def d20 : DenS := sSeq (sExpr (xGc (xCall 7 (aCons (xVar 0) (aNil))))) (sSeq (sExpr (xGc (xCall 14 (aCons (xVar 0) (aCons (xVar 1) (aNil)))))) (sRet (xGc (xCall 19 (aCons (xVar 0) (aCons (xVar 1) (aNil)))))))
def n20 : Dn := ⟨"moved", top 37, 2, ["tables", "change"], d20⟩
theorem b20 : BodyOk tx n20 := by
  intro G fe k P w K mg base f cdv A outer s H E h
  show PSs _ _ (tS _ _ _ d20)
  exact (sseq_ok (sx (xgc_ok (h.toOk.call 7 (h.toOk.ac (h.toOk.v 0) (anil_ok))))) (sseq_ok (sx (xgc_ok (h.toOk.call 14 (h.toOk.ac (h.toOk.v 0) (h.toOk.ac (h.toOk.v 1) (anil_ok)))))) (sone_ok (sret_ok (xgc_ok (h.toOk.call 19 (h.toOk.ac (h.toOk.v 0) (h.toOk.ac (h.toOk.v 1) (anil_ok)))))))))
theorem ok20 : DefOk tx n20 := ⟨by decide, ⟨rfl, rfl, rfl, by decide +kernel, rfl, by decide +kernel, by decide +kernel⟩, b20⟩
/-- kept_by: numbers, told, found, product, number, row, _, times -/
def d21 : DenS := sSeq (sSet 2 (xGc (xLst (aNil)))) (sSeq (sFor (iAny (xVar 1)) (.tp [.nm 3, .nm 4]) (sIf (tGc (tVal (xCallF bAll (aCons (xLc (iAny (xVar 3)) (.tp [.nm 5, .nm 6]) (tYesD) (xGc (xBin opIsNot (xBin opIx (xVar 0) (xVar 5)) (xLit .non))) [5, 6]) (aNil))))) (sExpr (xGc (xMeth [("list", fAppend)] (xVar 2) (aCons (xTup (aCons (xCallF bTuple (aCons (xCallF bSorted (aCons (xLc (iAny (xVar 3)) (.tp [.nm 5, .nm 7]) (tYesD) (xGc (xTup (aCons (xBin opIx (xVar 0) (xVar 5)) (aCons (xVar 7) (aNil))))) [5, 7]) (aNil))) (aNil))) (aCons (xVar 4) (aNil)))) (aNil))))) (sNil))) (sRet (xGc (xCallF bTuple (aCons (xCallF bSorted (aCons (xVar 2) (aNil))) (aNil))))))
def n21 : Dn := ⟨"kept_by", top 38, 2, ["numbers", "told", "found", "product", "number", "row", "_", "times"], d21⟩
theorem b21 : BodyOk tx n21 := by
  intro G fe k P w K mg base f cdv A outer s H E h
  show PSs _ _ (tS _ _ _ d21)
  exact (sseq_ok (h.set 2 (xgc_ok (xlst_ok (anil_ok)))) (sseq_ok (h.for_ (h.toOk.it (h.toOk.v 1)) (h.toOk.tpl (h.toOk.pc (h.toOk.nm 3) (h.toOk.pc (h.toOk.nm 4) (pnil_ok)))) (sone_ok (sif_ok (tgc_ok (h.toOk.tv (h.toOk.bi (bAll_ok h.toOk.on h.toOk.calm) 3 (h.toOk.ac (h.toOk.lc (own := [("row", 5), ("_", 6)]) (blkOk_by (by kernel_rfl)) (h.toOk.it (h.toOk.v 3)) (fun _ _ _ _ _ h1 => h1.tpl (h1.pc (h1.nm 5) (h1.pc (h1.nm 6) (pnil_ok)))) (fun _ _ _ _ _ h1 => tyes_ok) (fun _ _ _ _ _ h1 => xgc_ok (h1.isn (h1.ix (h1.v 0) (h1.v 5)) (h1.non)))) (anil_ok)) (by decide +kernel)))) (sone_ok (sx (xgc_ok (h.toOk.mt1 (fAppend_ok h.toOk.on) (h.toOk.v 2) (h.toOk.ac (xtup_ok (h.toOk.ac (h.toOk.ty (bTuple_ok h.toOk.on) 6 (h.toOk.ac (h.toOk.bi (bSorted_ok h.toOk.on h.toOk.calm h.toOk.u64) 8 (h.toOk.ac (h.toOk.lc (own := [("row", 5), ("times", 7)]) (blkOk_by (by kernel_rfl)) (h.toOk.it (h.toOk.v 3)) (fun _ _ _ _ _ h2 => h2.tpl (h2.pc (h2.nm 5) (h2.pc (h2.nm 7) (pnil_ok)))) (fun _ _ _ _ _ h2 => tyes_ok) (fun _ _ _ _ _ h2 => xgc_ok (xtup_ok (h2.ac (h2.ix (h2.v 0) (h2.v 5)) (h2.ac (h2.v 7) (anil_ok)))))) (anil_ok)) boot_sorted) (anil_ok)) boot_tuple) (h.toOk.ac (h.toOk.v 4) (anil_ok)))) (anil_ok)))))) (snil_ok)))) (sone_ok (sret_ok (xgc_ok (h.toOk.ty (bTuple_ok h.toOk.on) 6 (h.toOk.ac (h.toOk.bi (bSorted_ok h.toOk.on h.toOk.calm h.toOk.u64) 8 (h.toOk.ac (h.toOk.v 2) (anil_ok)) boot_sorted) (anil_ok)) boot_tuple))))))
theorem ok21 : DefOk tx n21 := ⟨by decide, ⟨rfl, rfl, rfl, by decide +kernel, rfl, by decide +kernel, by decide +kernel⟩, b21⟩
/-- kept: tables, change, told -/
def d22 : DenS := sSeq (sExpr (xGc (xCall 7 (aCons (xVar 0) (aNil))))) (sSeq (sIf (tGc (tNt (tVal (xCall 9 (aCons (xVar 2) (aCons (xCallF bLen (aCons (xBin opIx (xVar 0) (xLit (.int 1))) (aNil))) (aNil))))))) (sRaise0 3) (sNil)) (sSeq (sExpr (xGc (xCall 14 (aCons (xVar 0) (aCons (xVar 1) (aNil)))))) (sRet (xGc (xCall 21 (aCons (xCall 19 (aCons (xVar 0) (aCons (xVar 1) (aNil)))) (aCons (xVar 2) (aNil))))))))
def n22 : Dn := ⟨"kept", top 39, 3, ["tables", "change", "told"], d22⟩
theorem b22 : BodyOk tx n22 := by
  intro G fe k P w K mg base f cdv A outer s H E h
  show PSs _ _ (tS _ _ _ d22)
  exact (sseq_ok (sx (xgc_ok (h.toOk.call 7 (h.toOk.ac (h.toOk.v 0) (anil_ok))))) (sseq_ok (sif_ok (tgc_ok (h.toOk.tn (h.toOk.tv (h.toOk.call 9 (h.toOk.ac (h.toOk.v 2) (h.toOk.ac (h.toOk.bi (bLen_ok h.toOk.on) 5 (h.toOk.ac (h.toOk.ix (h.toOk.v 0) (h.toOk.int)) (anil_ok)) PySem.boot_len) (anil_ok))))))) (sone_ok (h.raise0 3)) (snil_ok)) (sseq_ok (sx (xgc_ok (h.toOk.call 14 (h.toOk.ac (h.toOk.v 0) (h.toOk.ac (h.toOk.v 1) (anil_ok)))))) (sone_ok (sret_ok (xgc_ok (h.toOk.call 21 (h.toOk.ac (h.toOk.call 19 (h.toOk.ac (h.toOk.v 0) (h.toOk.ac (h.toOk.v 1) (anil_ok)))) (h.toOk.ac (h.toOk.v 2) (anil_ok))))))))))
theorem ok22 : DefOk tx n22 := ⟨by decide, ⟨rfl, rfl, rfl, by decide +kernel, rfl, by decide +kernel, by decide +kernel⟩, b22⟩
/-- _law_bag: script, k, cell -/
def d23 : DenS := sSeq (sSet 2 (xGc (xLit (.int 0)))) (sSeq (sIf (tGc (tB (xBin opLt (xVar 1) (xCallF bLen (aCons (xVar 0) (aNil)))))) (sSet 2 (xGc (xCallF bInt (aCons (xBin opIx (xVar 0) (xVar 1)) (aNil))))) (sNil)) (sSeq (sIf (tGc (tB (xBin opGe (xVar 2) (xBin opPow (xLit (.int 10)) (xLit (.int 18)))))) (sRet (xGc (xLst (aCons (xVar 2) (aCons (xVar 2) (aCons (xVar 1) (aNil))))))) (sNil)) (sRet (xGc (xLst (aCons (xLit (.int 0)) (aCons (xVar 2) (aCons (xVar 1) (aNil)))))))))
def n23 : Dn := ⟨"_law_bag", top 41, 2, ["script", "k", "cell"], d23⟩
theorem b23 : BodyOk tx n23 := by
  intro G fe k P w K mg base f cdv A outer s H E h
  show PSs _ _ (tS _ _ _ d23)
  exact (sseq_ok (h.set 2 (xgc_ok (h.toOk.int))) (sseq_ok (sif_ok (tgc_ok (h.toOk.tlt (h.toOk.v 1) (h.toOk.bi (bLen_ok h.toOk.on) 5 (h.toOk.ac (h.toOk.v 0) (anil_ok)) PySem.boot_len))) (sone_ok (h.set 2 (xgc_ok (h.toOk.ty (bInt_ok h.toOk.on) 1 (h.toOk.ac (h.toOk.ix (h.toOk.v 0) (h.toOk.v 1)) (anil_ok)) boot_int)))) (snil_ok)) (sseq_ok (sif_ok (tgc_ok (h.toOk.tge (h.toOk.v 2) (h.toOk.pow (h.toOk.int) (h.toOk.int)))) (sone_ok (sret_ok (xgc_ok (xlst_ok (h.toOk.ac (h.toOk.v 2) (h.toOk.ac (h.toOk.v 2) (h.toOk.ac (h.toOk.v 1) (anil_ok)))))))) (snil_ok)) (sone_ok (sret_ok (xgc_ok (xlst_ok (h.toOk.ac (h.toOk.int) (h.toOk.ac (h.toOk.v 2) (h.toOk.ac (h.toOk.v 1) (anil_ok)))))))))))
theorem ok23 : DefOk tx n23 := ⟨by decide, ⟨rfl, rfl, rfl, by decide +kernel, rfl, by decide +kernel, by decide +kernel⟩, b23⟩
/-- _law_draw: bag, many, rest, seed -/
def d24 : DenS := sSeq (sIf (tGc (tB (xBin opEq (xBin opIx (xVar 0) (xLit (.int 0))) (xLit (.int 0))))) (sSeq (sSet 3 (xGc (xBin opMod (xCallF bInt (aCons (xBin opAdd (xBin opAdd (xBin opMul (xBin opIx (xVar 0) (xLit (.int 1))) (xLit (.int 48271))) (xBin opMul (xBin opIx (xVar 0) (xLit (.int 2))) (xLit (.int 69621)))) (xLit (.int 11))) (aNil))) (xLit (.int 2147483647))))) (sSeq (sSub (xVar 0) (xGc (xLit (.int 0))) (xGc (xBin opAdd (xBin opMul (xVar 3) (xLit (.int 2147483629))) (xBin opMod (xCallF bInt (aCons (xBin opAdd (xBin opMul (xVar 3) (xVar 3)) (xBin opMul (xBin opIx (xVar 0) (xLit (.int 2))) (xLit (.int 16807)))) (aNil))) (xLit (.int 2147483629)))))) (sSub (xVar 0) (xGc (xLit (.int 1))) (xGc (xVar 3))))) (sNil)) (sSeq (sSet 2 (xGc (xBin opIx (xVar 0) (xLit (.int 0))))) (sSeq (sSub (xVar 0) (xGc (xLit (.int 0))) (xGc (xBin opFdiv (xVar 2) (xVar 1)))) (sRet (xGc (xBin opMod (xCallF bInt (aCons (xVar 2) (aNil))) (xVar 1))))))
def n24 : Dn := ⟨"_law_draw", top 42, 2, ["bag", "many", "rest", "seed"], d24⟩
theorem b24 : BodyOk tx n24 := by
  intro G fe k P w K mg base f cdv A outer s H E h
  show PSs _ _ (tS _ _ _ d24)
  exact (sseq_ok (sif_ok (tgc_ok (h.toOk.teq (h.toOk.ix (h.toOk.v 0) (h.toOk.int)) (h.toOk.int))) (sseq_ok (h.set 3 (xgc_ok (h.toOk.mod (h.toOk.ty (bInt_ok h.toOk.on) 1 (h.toOk.ac (h.toOk.add (h.toOk.add (h.toOk.mul (h.toOk.ix (h.toOk.v 0) (h.toOk.int)) (h.toOk.int)) (h.toOk.mul (h.toOk.ix (h.toOk.v 0) (h.toOk.int)) (h.toOk.int))) (h.toOk.int)) (anil_ok)) boot_int) (h.toOk.int)))) (sseq_ok (h.sub (xgc_ok (h.toOk.add (h.toOk.mul (h.toOk.v 3) (h.toOk.int)) (h.toOk.mod (h.toOk.ty (bInt_ok h.toOk.on) 1 (h.toOk.ac (h.toOk.add (h.toOk.mul (h.toOk.v 3) (h.toOk.v 3)) (h.toOk.mul (h.toOk.ix (h.toOk.v 0) (h.toOk.int)) (h.toOk.int))) (anil_ok)) boot_int) (h.toOk.int)))) (h.toOk.v 0) (xgc_ok (h.toOk.int))) (sone_ok (h.sub (xgc_ok (h.toOk.v 3)) (h.toOk.v 0) (xgc_ok (h.toOk.int)))))) (snil_ok)) (sseq_ok (h.set 2 (xgc_ok (h.toOk.ix (h.toOk.v 0) (h.toOk.int)))) (sseq_ok (h.sub (xgc_ok (h.toOk.fdiv (h.toOk.v 2) (h.toOk.v 1))) (h.toOk.v 0) (xgc_ok (h.toOk.int))) (sone_ok (sret_ok (xgc_ok (h.toOk.mod (h.toOk.ty (bInt_ok h.toOk.on) 1 (h.toOk.ac (h.toOk.v 2) (anil_ok)) boot_int) (h.toOk.v 1))))))))
theorem ok24 : DefOk tx n24 := ⟨by decide, ⟨rfl, rfl, rfl, by decide +kernel, rfl, by decide +kernel, by decide +kernel⟩, b24⟩
/-- _law_one: bag, some -/
def d25 : DenS := sRet (xGc (xBin opIx (xVar 1) (xCall 24 (aCons (xVar 0) (aCons (xCallF bLen (aCons (xVar 1) (aNil))) (aNil))))))
def n25 : Dn := ⟨"_law_one", top 43, 2, ["bag", "some"], d25⟩
theorem b25 : BodyOk tx n25 := by
  intro G fe k P w K mg base f cdv A outer s H E h
  show PSs _ _ (tS _ _ _ d25)
  exact (sone_ok (sret_ok (xgc_ok (h.toOk.ix (h.toOk.v 1) (h.toOk.call 24 (h.toOk.ac (h.toOk.v 0) (h.toOk.ac (h.toOk.bi (bLen_ok h.toOk.on) 5 (h.toOk.ac (h.toOk.v 1) (anil_ok)) PySem.boot_len) (anil_ok))))))))
theorem ok25 : DefOk tx n25 := ⟨by decide, ⟨rfl, rfl, rfl, by decide +kernel, rfl, by decide +kernel, by decide +kernel⟩, b25⟩
/-- _law_values: bag -/
def d26 : DenS := sRet (xGc (xCall 25 (aCons (xVar 0) (aCons (xLst (aCons (xLst (aCons (xLit (.str "a")) (aCons (xLit (.str "b")) (aNil)))) (aCons (xLst (aCons (xLit (.str "a")) (aCons (xLit (.str "b")) (aCons (xLit (.str "c")) (aNil))))) (aCons (xLst (aCons (xLit (.str "1")) (aCons (xLit (.str "2")) (aCons (xLit (.str "3")) (aCons (xLit (.str "4")) (aNil)))))) (aCons (xLst (aCons (xLit (.str "x")) (aCons (xLit (.str "y1")) (aNil)))) (aNil)))))) (aNil)))))
def n26 : Dn := ⟨"_law_values", top 44, 1, ["bag"], d26⟩
theorem b26 : BodyOk tx n26 := by
  intro G fe k P w K mg base f cdv A outer s H E h
  show PSs _ _ (tS _ _ _ d26)
  exact (sone_ok (sret_ok (xgc_ok (h.toOk.call 25 (h.toOk.ac (h.toOk.v 0) (h.toOk.ac (xlst_ok (h.toOk.ac (xlst_ok (h.toOk.ac (h.toOk.str) (h.toOk.ac (h.toOk.str) (anil_ok)))) (h.toOk.ac (xlst_ok (h.toOk.ac (h.toOk.str) (h.toOk.ac (h.toOk.str) (h.toOk.ac (h.toOk.str) (anil_ok))))) (h.toOk.ac (xlst_ok (h.toOk.ac (h.toOk.str) (h.toOk.ac (h.toOk.str) (h.toOk.ac (h.toOk.str) (h.toOk.ac (h.toOk.str) (anil_ok)))))) (h.toOk.ac (xlst_ok (h.toOk.ac (h.toOk.str) (h.toOk.ac (h.toOk.str) (anil_ok)))) (anil_ok)))))) (anil_ok)))))))
theorem ok26 : DefOk tx n26 := ⟨by decide, ⟨rfl, rfl, rfl, by decide +kernel, rfl, by decide +kernel, by decide +kernel⟩, b26⟩
/-- _law_widths:  -/
def d27 : DenS := sRet (xGc (xDict [(xLit (.str "e"), xLit (.int 2)), (xLit (.str "f"), xLit (.int 2)), (xLit (.str "p"), xLit (.int 1)), (xLit (.str "t"), xLit (.int 3))]))
def n27 : Dn := ⟨"_law_widths", top 45, 0, [], d27⟩
theorem b27 : BodyOk tx n27 := by
  intro G fe k P w K mg base f cdv A outer s H E h
  show PSs _ _ (tS _ _ _ d27)
  exact (sone_ok (sret_ok (xgc_ok (h.toOk.dict (l := [(xLit (.str "e"), xLit (.int 2)), (xLit (.str "f"), xLit (.int 2)), (xLit (.str "p"), xLit (.int 1)), (xLit (.str "t"), xLit (.int 3))]) (pps_cons (h.toOk.str) (h.toOk.int) (pps_cons (h.toOk.str) (h.toOk.int) (pps_cons (h.toOk.str) (h.toOk.int) (pps_cons (h.toOk.str) (h.toOk.int) (pps_nil)))))))))
theorem ok27 : DefOk tx n27 := ⟨by decide, ⟨rfl, rfl, rfl, by decide +kernel, rfl, by decide +kernel, by decide +kernel⟩, b27⟩
/-- _law_tables: bag, values, most, rows, turn, name, j -/
def d28 : DenS := sSeq (sSet 3 (xGc (xEmpty))) (sSeq (sFor (iRange1 (aCons (xCall 24 (aCons (xVar 0) (aCons (xBin opAdd (xVar 2) (xLit (.int 1))) (aNil)))) (aNil))) (.nm 4) (sSeq (sSet 5 (xGc (xCall 25 (aCons (xVar 0) (aCons (xLst (aCons (xLit (.str "e")) (aCons (xLit (.str "e")) (aCons (xLit (.str "e")) (aCons (xLit (.str "f")) (aCons (xLit (.str "p")) (aCons (xLit (.str "t")) (aNil)))))))) (aNil)))))) (sSub (xVar 3) (xGc (xTup (aCons (xVar 5) (aCons (xCallF bTuple (aCons (xLc (iRange1 (aCons (xBin opIx (xCall 27 aNil) (xVar 5)) (aNil))) (.nm 6) (tYesD) (xGc (xCall 25 (aCons (xVar 0) (aCons (xVar 1) (aNil))))) [6]) (aNil))) (aNil))))) (xGc (xLit (.int 1)))))) (sRet (xGc (xTup (aCons (xLit (.str "tables")) (aCons (xCallF bTuple (aCons (xCallF bSorted (aCons (xVar 3) (aNil))) (aNil))) (aNil)))))))
def n28 : Dn := ⟨"_law_tables", top 46, 3, ["bag", "values", "most", "rows", "turn", "name", "j"], d28⟩
theorem b28 : BodyOk tx n28 := by
  intro G fe k P w K mg base f cdv A outer s H E h
  show PSs _ _ (tS _ _ _ d28)
  exact (sseq_ok (h.set 3 (xgc_ok (xempty_ok))) (sseq_ok (h.for_ (h.toOk.rg1 11 (h.toOk.ac (h.toOk.call 24 (h.toOk.ac (h.toOk.v 0) (h.toOk.ac (h.toOk.add (h.toOk.v 2) (h.toOk.int)) (anil_ok)))) (anil_ok))) (h.toOk.nm 4) (sseq_ok (h.set 5 (xgc_ok (h.toOk.call 25 (h.toOk.ac (h.toOk.v 0) (h.toOk.ac (xlst_ok (h.toOk.ac (h.toOk.str) (h.toOk.ac (h.toOk.str) (h.toOk.ac (h.toOk.str) (h.toOk.ac (h.toOk.str) (h.toOk.ac (h.toOk.str) (h.toOk.ac (h.toOk.str) (anil_ok)))))))) (anil_ok)))))) (sone_ok (h.sub (xgc_ok (h.toOk.int)) (h.toOk.v 3) (xgc_ok (xtup_ok (h.toOk.ac (h.toOk.v 5) (h.toOk.ac (h.toOk.ty (bTuple_ok h.toOk.on) 6 (h.toOk.ac (h.toOk.lc (own := [("j", 6)]) (blkOk_by (by kernel_rfl)) (h.toOk.rg1 11 (h.toOk.ac (h.toOk.ix (h.toOk.call0 27) (h.toOk.v 5)) (anil_ok))) (fun _ _ _ _ _ h1 => h1.nm 6) (fun _ _ _ _ _ h1 => tyes_ok) (fun _ _ _ _ _ h1 => xgc_ok (h1.call 25 (h1.ac (h1.v 0) (h1.ac (h1.v 1) (anil_ok)))))) (anil_ok)) boot_tuple) (anil_ok))))))))) (sone_ok (sret_ok (xgc_ok (xtup_ok (h.toOk.ac (h.toOk.str) (h.toOk.ac (h.toOk.ty (bTuple_ok h.toOk.on) 6 (h.toOk.ac (h.toOk.bi (bSorted_ok h.toOk.on h.toOk.calm h.toOk.u64) 8 (h.toOk.ac (h.toOk.v 3) (anil_ok)) boot_sorted) (anil_ok)) boot_tuple) (anil_ok)))))))))
theorem ok28 : DefOk tx n28 := ⟨by decide, ⟨rfl, rfl, rfl, by decide +kernel, rfl, by decide +kernel, by decide +kernel⟩, b28⟩
/-- _law_row: bag, values, name, j -/
def d29 : DenS := sSeq (sSet 2 (xGc (xCall 25 (aCons (xVar 0) (aCons (xLst (aCons (xLit (.str "e")) (aCons (xLit (.str "e")) (aCons (xLit (.str "f")) (aCons (xLit (.str "p")) (aCons (xLit (.str "t")) (aCons (xLit (.str "g")) (aNil)))))))) (aNil)))))) (sRet (xGc (xTup (aCons (xVar 2) (aCons (xCallF bTuple (aCons (xLc (iRange1 (aCons (xBin opIx (xDict [(xLit (.str "e"), xLit (.int 2)), (xLit (.str "f"), xLit (.int 2)), (xLit (.str "p"), xLit (.int 1)), (xLit (.str "t"), xLit (.int 3)), (xLit (.str "g"), xLit (.int 1))]) (xVar 2)) (aNil))) (.nm 3) (tYesD) (xGc (xCall 25 (aCons (xVar 0) (aCons (xVar 1) (aNil))))) [3]) (aNil))) (aNil))))))
def n29 : Dn := ⟨"_law_row", top 47, 2, ["bag", "values", "name", "j"], d29⟩
theorem b29 : BodyOk tx n29 := by
  intro G fe k P w K mg base f cdv A outer s H E h
  show PSs _ _ (tS _ _ _ d29)
  exact (sseq_ok (h.set 2 (xgc_ok (h.toOk.call 25 (h.toOk.ac (h.toOk.v 0) (h.toOk.ac (xlst_ok (h.toOk.ac (h.toOk.str) (h.toOk.ac (h.toOk.str) (h.toOk.ac (h.toOk.str) (h.toOk.ac (h.toOk.str) (h.toOk.ac (h.toOk.str) (h.toOk.ac (h.toOk.str) (anil_ok)))))))) (anil_ok)))))) (sone_ok (sret_ok (xgc_ok (xtup_ok (h.toOk.ac (h.toOk.v 2) (h.toOk.ac (h.toOk.ty (bTuple_ok h.toOk.on) 6 (h.toOk.ac (h.toOk.lc (own := [("j", 3)]) (blkOk_by (by kernel_rfl)) (h.toOk.rg1 11 (h.toOk.ac (h.toOk.ix (h.toOk.dict (l := [(xLit (.str "e"), xLit (.int 2)), (xLit (.str "f"), xLit (.int 2)), (xLit (.str "p"), xLit (.int 1)), (xLit (.str "t"), xLit (.int 3)), (xLit (.str "g"), xLit (.int 1))]) (pps_cons (h.toOk.str) (h.toOk.int) (pps_cons (h.toOk.str) (h.toOk.int) (pps_cons (h.toOk.str) (h.toOk.int) (pps_cons (h.toOk.str) (h.toOk.int) (pps_cons (h.toOk.str) (h.toOk.int) (pps_nil))))))) (h.toOk.v 2)) (anil_ok))) (fun _ _ _ _ _ h1 => h1.nm 3) (fun _ _ _ _ _ h1 => tyes_ok) (fun _ _ _ _ _ h1 => xgc_ok (h1.call 25 (h1.ac (h1.v 0) (h1.ac (h1.v 1) (anil_ok)))))) (anil_ok)) boot_tuple) (anil_ok))))))))
theorem ok29 : DefOk tx n29 := ⟨by decide, ⟨rfl, rfl, rfl, by decide +kernel, rfl, by decide +kernel, by decide +kernel⟩, b29⟩
/-- _law_change: bag, tables, values, out, new, turn, row -/
def d30 : DenS := sSeq (sSet 3 (xGc (xCallF bTuple (aCons (xLc (iAny (xBin opIx (xVar 1) (xLit (.int 1)))) (.nm 6) (tGc (tB (xBin opEq (xCall 24 (aCons (xVar 0) (aCons (xLit (.int 3)) (aNil)))) (xLit (.int 0))))) (xGc (xVar 6)) [6]) (aNil))))) (sSeq (sSet 4 (xGc (xEmpty))) (sSeq (sFor (iRange1 (aCons (xCall 24 (aCons (xVar 0) (aCons (xLit (.int 4)) (aNil)))) (aNil))) (.nm 5) (sSeq (sSet 6 (xGc (xCall 29 (aCons (xVar 0) (aCons (xVar 2) (aNil)))))) (sIf (tGc (tB (xBin opNotIn (xVar 6) (xBin opIx (xVar 1) (xLit (.int 1)))))) (sSub (xVar 4) (xGc (xVar 6)) (xGc (xLit (.int 1)))) (sNil)))) (sRet (xGc (xTup (aCons (xLit (.str "change")) (aCons (xVar 3) (aCons (xCallF bTuple (aCons (xCallF bSorted (aCons (xVar 4) (aNil))) (aNil))) (aNil)))))))))
def n30 : Dn := ⟨"_law_change", top 48, 3, ["bag", "tables", "values", "out", "new", "turn", "row"], d30⟩
theorem b30 : BodyOk tx n30 := by
  intro G fe k P w K mg base f cdv A outer s H E h
  show PSs _ _ (tS _ _ _ d30)
  exact (sseq_ok (h.set 3 (xgc_ok (h.toOk.ty (bTuple_ok h.toOk.on) 6 (h.toOk.ac (h.toOk.lc (own := [("row", 6)]) (blkOk_by (by kernel_rfl)) (h.toOk.it (h.toOk.ix (h.toOk.v 1) (h.toOk.int))) (fun _ _ _ _ _ h1 => h1.nm 6) (fun _ _ _ _ _ h1 => tone_ok (tgc_ok (h1.teq (h1.call 24 (h1.ac (h1.v 0) (h1.ac (h1.int) (anil_ok)))) (h1.int)))) (fun _ _ _ _ _ h1 => xgc_ok (h1.v 6))) (anil_ok)) boot_tuple))) (sseq_ok (h.set 4 (xgc_ok (xempty_ok))) (sseq_ok (h.for_ (h.toOk.rg1 11 (h.toOk.ac (h.toOk.call 24 (h.toOk.ac (h.toOk.v 0) (h.toOk.ac (h.toOk.int) (anil_ok)))) (anil_ok))) (h.toOk.nm 5) (sseq_ok (h.set 6 (xgc_ok (h.toOk.call 29 (h.toOk.ac (h.toOk.v 0) (h.toOk.ac (h.toOk.v 2) (anil_ok)))))) (sone_ok (sif_ok (tgc_ok (h.toOk.tnin (h.toOk.v 6) (h.toOk.ix (h.toOk.v 1) (h.toOk.int)))) (sone_ok (h.sub (xgc_ok (h.toOk.int)) (h.toOk.v 4) (xgc_ok (h.toOk.v 6)))) (snil_ok))))) (sone_ok (sret_ok (xgc_ok (xtup_ok (h.toOk.ac (h.toOk.str) (h.toOk.ac (h.toOk.v 3) (h.toOk.ac (h.toOk.ty (bTuple_ok h.toOk.on) 6 (h.toOk.ac (h.toOk.bi (bSorted_ok h.toOk.on h.toOk.calm h.toOk.u64) 8 (h.toOk.ac (h.toOk.v 4) (anil_ok)) boot_sorted) (anil_ok)) boot_tuple) (anil_ok)))))))))))
theorem ok30 : DefOk tx n30 := ⟨by decide, ⟨rfl, rfl, rfl, by decide +kernel, rfl, by decide +kernel, by decide +kernel⟩, b30⟩
/-- _law_changed: tables, change, row -/
def d31 : DenS := sRet (xGc (xTup (aCons (xLit (.str "tables")) (aCons (xCallF bTuple (aCons (xCallF bSorted (aCons (xBin opAdd (xLc (iAny (xBin opIx (xVar 0) (xLit (.int 1)))) (.nm 2) (tGc (tB (xBin opNotIn (xVar 2) (xBin opIx (xVar 1) (xLit (.int 1)))))) (xGc (xVar 2)) [2]) (xCallF bList (aCons (xBin opIx (xVar 1) (xLit (.int 2))) (aNil)))) (aNil))) (aNil))) (aNil)))))
def n31 : Dn := ⟨"_law_changed", top 49, 2, ["tables", "change", "row"], d31⟩
theorem b31 : BodyOk tx n31 := by
  intro G fe k P w K mg base f cdv A outer s H E h
  show PSs _ _ (tS _ _ _ d31)
  exact (sone_ok (sret_ok (xgc_ok (xtup_ok (h.toOk.ac (h.toOk.str) (h.toOk.ac (h.toOk.ty (bTuple_ok h.toOk.on) 6 (h.toOk.ac (h.toOk.bi (bSorted_ok h.toOk.on h.toOk.calm h.toOk.u64) 8 (h.toOk.ac (h.toOk.add (h.toOk.lc (own := [("row", 2)]) (blkOk_by (by kernel_rfl)) (h.toOk.it (h.toOk.ix (h.toOk.v 0) (h.toOk.int))) (fun _ _ _ _ _ h1 => h1.nm 2) (fun _ _ _ _ _ h1 => tone_ok (tgc_ok (h1.tnin (h1.v 2) (h1.ix (h1.v 1) (h1.int))))) (fun _ _ _ _ _ h1 => xgc_ok (h1.v 2))) (h.toOk.ty (bList_ok h.toOk.on h.toOk.calm) 10 (h.toOk.ac (h.toOk.ix (h.toOk.v 1) (h.toOk.int)) (anil_ok)) boot_list)) (anil_ok)) boot_sorted) (anil_ok)) boot_tuple) (anil_ok)))))))
theorem ok31 : DefOk tx n31 := ⟨by decide, ⟨rfl, rfl, rfl, by decide +kernel, rfl, by decide +kernel, by decide +kernel⟩, b31⟩
/-- _law_told: call, given, e -/
def d32 : DenS := sTry (sSeq (sIf (tGc (tB (xBin opEq (xCallF bLen (aCons (xVar 1) (aNil))) (xLit (.int 1))))) (sRet (xGc (xCallV 0 (aCons (xBin opIx (xVar 1) (xLit (.int 0))) (aNil))))) (sNil)) (sSeq (sIf (tGc (tB (xBin opEq (xCallF bLen (aCons (xVar 1) (aNil))) (xLit (.int 2))))) (sRet (xGc (xCallV 0 (aCons (xBin opIx (xVar 1) (xLit (.int 0))) (aCons (xBin opIx (xVar 1) (xLit (.int 1))) (aNil)))))) (sNil)) (sSeq (sIf (tGc (tB (xBin opEq (xCallF bLen (aCons (xVar 1) (aNil))) (xLit (.int 3))))) (sRet (xGc (xCallV 0 (aCons (xBin opIx (xVar 1) (xLit (.int 0))) (aCons (xBin opIx (xVar 1) (xLit (.int 1))) (aCons (xBin opIx (xVar 1) (xLit (.int 2))) (aNil))))))) (sNil)) (sSeq (sIf (tGc (tB (xBin opEq (xCallF bLen (aCons (xVar 1) (aNil))) (xLit (.int 4))))) (sRet (xGc (xCallV 0 (aCons (xBin opIx (xVar 1) (xLit (.int 0))) (aCons (xBin opIx (xVar 1) (xLit (.int 1))) (aCons (xBin opIx (xVar 1) (xLit (.int 2))) (aCons (xBin opIx (xVar 1) (xLit (.int 3))) (aNil)))))))) (sNil)) (sSeq (sIf (tGc (tB (xBin opEq (xCallF bLen (aCons (xVar 1) (aNil))) (xLit (.int 5))))) (sRet (xGc (xCallV 0 (aCons (xBin opIx (xVar 1) (xLit (.int 0))) (aCons (xBin opIx (xVar 1) (xLit (.int 1))) (aCons (xBin opIx (xVar 1) (xLit (.int 2))) (aCons (xBin opIx (xVar 1) (xLit (.int 3))) (aCons (xBin opIx (xVar 1) (xLit (.int 4))) (aNil))))))))) (sNil)) (sRet (xGc (xCallV 0 (aCons (xBin opIx (xVar 1) (xLit (.int 0))) (aCons (xBin opIx (xVar 1) (xLit (.int 1))) (aCons (xBin opIx (xVar 1) (xLit (.int 2))) (aCons (xBin opIx (xVar 1) (xLit (.int 3))) (aCons (xBin opIx (xVar 1) (xLit (.int 4))) (aCons (xBin opIx (xVar 1) (xLit (.int 5))) (aNil))))))))))))))) [.plain (tx.of 1) (sRet (xLit (.str "tables"))), .plain (tx.of 2) (sRet (xLit (.str "question"))), .plain (tx.of 3) (sRet (xLit (.str "sum"))), .field (tx.of 4) 2, .plain (tx.of 5) (sRet (xLit (.str "none"))), .plain (tx.of 6) (sRet (xLit (.str "far")))]
def n32 : Dn := ⟨"_law_told", top 50, 2, ["call", "given", "e"], d32⟩
theorem b32 : BodyOk tx n32 := by
  intro G fe k P w K mg base f cdv A outer s H E h
  show PSs _ _ (tS _ _ _ d32)
  exact (sone_ok (h.try_ (fun _ _ _ h1 => sseq_ok (sif_ok (tgc_ok (h1.toOk.teq (h1.toOk.bi (bLen_ok h1.toOk.on) 5 (h1.toOk.ac (h1.toOk.v 1) (anil_ok)) PySem.boot_len) (h1.toOk.int))) (sone_ok (sret_ok (xgc_ok (h1.toOk.callv 0 (h1.toOk.ac (h1.toOk.ix (h1.toOk.v 1) (h1.toOk.int)) (anil_ok)))))) (snil_ok)) (sseq_ok (sif_ok (tgc_ok (h1.toOk.teq (h1.toOk.bi (bLen_ok h1.toOk.on) 5 (h1.toOk.ac (h1.toOk.v 1) (anil_ok)) PySem.boot_len) (h1.toOk.int))) (sone_ok (sret_ok (xgc_ok (h1.toOk.callv 0 (h1.toOk.ac (h1.toOk.ix (h1.toOk.v 1) (h1.toOk.int)) (h1.toOk.ac (h1.toOk.ix (h1.toOk.v 1) (h1.toOk.int)) (anil_ok))))))) (snil_ok)) (sseq_ok (sif_ok (tgc_ok (h1.toOk.teq (h1.toOk.bi (bLen_ok h1.toOk.on) 5 (h1.toOk.ac (h1.toOk.v 1) (anil_ok)) PySem.boot_len) (h1.toOk.int))) (sone_ok (sret_ok (xgc_ok (h1.toOk.callv 0 (h1.toOk.ac (h1.toOk.ix (h1.toOk.v 1) (h1.toOk.int)) (h1.toOk.ac (h1.toOk.ix (h1.toOk.v 1) (h1.toOk.int)) (h1.toOk.ac (h1.toOk.ix (h1.toOk.v 1) (h1.toOk.int)) (anil_ok)))))))) (snil_ok)) (sseq_ok (sif_ok (tgc_ok (h1.toOk.teq (h1.toOk.bi (bLen_ok h1.toOk.on) 5 (h1.toOk.ac (h1.toOk.v 1) (anil_ok)) PySem.boot_len) (h1.toOk.int))) (sone_ok (sret_ok (xgc_ok (h1.toOk.callv 0 (h1.toOk.ac (h1.toOk.ix (h1.toOk.v 1) (h1.toOk.int)) (h1.toOk.ac (h1.toOk.ix (h1.toOk.v 1) (h1.toOk.int)) (h1.toOk.ac (h1.toOk.ix (h1.toOk.v 1) (h1.toOk.int)) (h1.toOk.ac (h1.toOk.ix (h1.toOk.v 1) (h1.toOk.int)) (anil_ok))))))))) (snil_ok)) (sseq_ok (sif_ok (tgc_ok (h1.toOk.teq (h1.toOk.bi (bLen_ok h1.toOk.on) 5 (h1.toOk.ac (h1.toOk.v 1) (anil_ok)) PySem.boot_len) (h1.toOk.int))) (sone_ok (sret_ok (xgc_ok (h1.toOk.callv 0 (h1.toOk.ac (h1.toOk.ix (h1.toOk.v 1) (h1.toOk.int)) (h1.toOk.ac (h1.toOk.ix (h1.toOk.v 1) (h1.toOk.int)) (h1.toOk.ac (h1.toOk.ix (h1.toOk.v 1) (h1.toOk.int)) (h1.toOk.ac (h1.toOk.ix (h1.toOk.v 1) (h1.toOk.int)) (h1.toOk.ac (h1.toOk.ix (h1.toOk.v 1) (h1.toOk.int)) (anil_ok)))))))))) (snil_ok)) (sone_ok (sret_ok (xgc_ok (h1.toOk.callv 0 (h1.toOk.ac (h1.toOk.ix (h1.toOk.v 1) (h1.toOk.int)) (h1.toOk.ac (h1.toOk.ix (h1.toOk.v 1) (h1.toOk.int)) (h1.toOk.ac (h1.toOk.ix (h1.toOk.v 1) (h1.toOk.int)) (h1.toOk.ac (h1.toOk.ix (h1.toOk.v 1) (h1.toOk.int)) (h1.toOk.ac (h1.toOk.ix (h1.toOk.v 1) (h1.toOk.int)) (h1.toOk.ac (h1.toOk.ix (h1.toOk.v 1) (h1.toOk.int)) (anil_ok)))))))))))))))) (h.hplain 1 (h.hplain 2 (h.hplain 3 (h.hfield 4 2 (h.hplain 5 (h.hplain 6 (h.hnil) (fun _ _ _ => sone_ok (sret_ok str0))) (fun _ _ _ => sone_ok (sret_ok str0)))) (fun _ _ _ => sone_ok (sret_ok str0))) (fun _ _ _ => sone_ok (sret_ok str0))) (fun _ _ _ => sone_ok (sret_ok str0)))))
theorem ok32 : DefOk tx n32 := ⟨by decide, ⟨rfl, rfl, rfl, by decide +kernel, rfl, by decide +kernel, by decide +kernel⟩, b32⟩
/-- _law_sum: bag, many, found, turn, product, k -/
def d33 : DenS := sSeq (sSet 2 (xGc (xEmpty))) (sSeq (sFor (iRange1 (aCons (xCall 24 (aCons (xVar 0) (aCons (xLit (.int 4)) (aNil)))) (aNil))) (.nm 3) (sSeq (sSet 4 (xGc (xEmpty))) (sSeq (sFor (iRange1 (aCons (xBin opAdd (xLit (.int 1)) (xCall 24 (aCons (xVar 0) (aCons (xLit (.int 3)) (aNil))))) (aNil))) (.nm 5) (sSub (xVar 4) (xGc (xCall 24 (aCons (xVar 0) (aCons (xVar 1) (aNil))))) (xGc (xBin opAdd (xLit (.int 1)) (xCall 24 (aCons (xVar 0) (aCons (xLit (.int 3)) (aNil)))))))) (sSub (xVar 2) (xGc (xCallF bTuple (aCons (xItemsF bSortItems (xVar 4)) (aNil)))) (xGc (xBin opAdd (xLit (.int 1)) (xCall 24 (aCons (xVar 0) (aCons (xLit (.int 4)) (aNil)))))))))) (sRet (xGc (xCallF bTuple (aCons (xItemsF bSortItems (xVar 2)) (aNil))))))
def n33 : Dn := ⟨"_law_sum", top 51, 2, ["bag", "many", "found", "turn", "product", "k"], d33⟩
theorem b33 : BodyOk tx n33 := by
  intro G fe k P w K mg base f cdv A outer s H E h
  show PSs _ _ (tS _ _ _ d33)
  exact (sseq_ok (h.set 2 (xgc_ok (xempty_ok))) (sseq_ok (h.for_ (h.toOk.rg1 11 (h.toOk.ac (h.toOk.call 24 (h.toOk.ac (h.toOk.v 0) (h.toOk.ac (h.toOk.int) (anil_ok)))) (anil_ok))) (h.toOk.nm 3) (sseq_ok (h.set 4 (xgc_ok (xempty_ok))) (sseq_ok (h.for_ (h.toOk.rg1 11 (h.toOk.ac (h.toOk.add (h.toOk.int) (h.toOk.call 24 (h.toOk.ac (h.toOk.v 0) (h.toOk.ac (h.toOk.int) (anil_ok))))) (anil_ok))) (h.toOk.nm 5) (sone_ok (h.sub (xgc_ok (h.toOk.add (h.toOk.int) (h.toOk.call 24 (h.toOk.ac (h.toOk.v 0) (h.toOk.ac (h.toOk.int) (anil_ok)))))) (h.toOk.v 4) (xgc_ok (h.toOk.call 24 (h.toOk.ac (h.toOk.v 0) (h.toOk.ac (h.toOk.v 1) (anil_ok)))))))) (sone_ok (h.sub (xgc_ok (h.toOk.add (h.toOk.int) (h.toOk.call 24 (h.toOk.ac (h.toOk.v 0) (h.toOk.ac (h.toOk.int) (anil_ok)))))) (h.toOk.v 2) (xgc_ok (h.toOk.ty (bTuple_ok h.toOk.on) 6 (h.toOk.ac (h.toOk.sortItems 8 (h.toOk.v 4)) (anil_ok)) boot_tuple))))))) (sone_ok (sret_ok (xgc_ok (h.toOk.ty (bTuple_ok h.toOk.on) 6 (h.toOk.ac (h.toOk.sortItems 8 (h.toOk.v 2)) (anil_ok)) boot_tuple))))))
theorem ok33 : DefOk tx n33 := ⟨by decide, ⟨rfl, rfl, rfl, by decide +kernel, rfl, by decide +kernel, by decide +kernel⟩, b33⟩
/-- _law_case: bag, values, tables, change, after, other, last, one, numbers, odd, told, due, product, number, row, value, call, times -/
def d34 : DenS := sSeq (sSet 1 (xGc (xCall 26 (aCons (xVar 0) (aNil))))) (sSeq (sSet 2 (xGc (xCall 28 (aCons (xVar 0) (aCons (xVar 1) (aCons (xLit (.int 9)) (aNil))))))) (sSeq (sSet 3 (xGc (xCall 30 (aCons (xVar 0) (aCons (xVar 2) (aCons (xVar 1) (aNil))))))) (sSeq (sSet 4 (xGc (xCall 31 (aCons (xVar 2) (aCons (xVar 3) (aNil)))))) (sSeq (sIf (tGc (tOo (tB (xBin opIsNot (xCall 13 (aCons (xVar 2) (aCons (xVar 3) (aNil)))) (xLit (.bl true)))) (tOo (tB (xBin opNe (xCall 16 (aCons (xVar 2) (aCons (xVar 3) (aNil)))) (xVar 4))) (tB (xBin opNe (xCall 17 (aCons (xVar 3) (aNil))) (xTup (aCons (xLit (.str "change")) (aCons (xBin opIx (xVar 3) (xLit (.int 2))) (aCons (xBin opIx (xVar 3) (xLit (.int 1))) (aNil)))))))))) (sRet (xGc (xLit (.bl false)))) (sNil)) (sSeq (sIf (tGc (tB (xBin opNe (xCall 16 (aCons (xVar 4) (aCons (xCall 17 (aCons (xVar 3) (aNil))) (aNil)))) (xVar 2)))) (sRet (xGc (xLit (.bl false)))) (sNil)) (sSeq (sSet 5 (xGc (xCall 30 (aCons (xVar 0) (aCons (xVar 4) (aCons (xVar 1) (aNil))))))) (sSeq (sSet 6 (xGc (xCall 31 (aCons (xVar 4) (aCons (xVar 5) (aNil)))))) (sSeq (sSet 7 (xGc (xTup (aCons (xLit (.str "change")) (aCons (xCallF bTuple (aCons (xLc (iAny (xBin opIx (xVar 2) (xLit (.int 1)))) (.nm 14) (tGc (tB (xBin opNotIn (xVar 14) (xBin opIx (xVar 6) (xLit (.int 1)))))) (xGc (xVar 14)) [14]) (aNil))) (aCons (xCallF bTuple (aCons (xLc (iAny (xBin opIx (xVar 6) (xLit (.int 1)))) (.nm 14) (tGc (tB (xBin opNotIn (xVar 14) (xBin opIx (xVar 2) (xLit (.int 1)))))) (xGc (xVar 14)) [14]) (aNil))) (aNil))))))) (sSeq (sIf (tGc (tOo (tB (xBin opNe (xCall 18 (aCons (xVar 2) (aCons (xVar 3) (aCons (xVar 5) (aNil))))) (xVar 7))) (tB (xBin opNe (xCall 16 (aCons (xVar 2) (aCons (xVar 7) (aNil)))) (xVar 6))))) (sRet (xGc (xLit (.bl false)))) (sNil)) (sSeq (sSet 8 (xGc (xCallF bTuple (aCons (xLc (iAny (xBin opIx (xVar 2) (xLit (.int 1)))) (.nm 14) (tYesD) (xGc (xIf (tB (xBin opIn (xVar 14) (xBin opIx (xVar 4) (xLit (.int 1))))) (xMeth [("list", fIndexL), ("tuple", fIndexT)] (xBin opIx (xVar 4) (xLit (.int 1))) (aCons (xVar 14) (aNil))) (xLit .non))) [14]) (aNil))))) (sSeq (sIf (tGc (tB (xBin opNe (xCall 20 (aCons (xVar 2) (aCons (xVar 3) (aNil)))) (xVar 8)))) (sRet (xGc (xLit (.bl false)))) (sNil)) (sSeq (sIf (tGc (tB (xBin opNe (xBin opIx (xVar 2) (xLit (.int 1))) (xTup (aNil))))) (sSeq (sSet 10 (xGc (xCall 33 (aCons (xVar 0) (aCons (xCallF bLen (aCons (xBin opIx (xVar 2) (xLit (.int 1))) (aNil))) (aNil)))))) (sSeq (sSet 11 (xGc (xLst (aNil)))) (sSeq (sFor (iAny (xVar 10)) (.tp [.nm 12, .nm 13]) (sIf (tGc (tB (xBin opNotIn (xLit .non) (xLc (iAny (xVar 12)) (.tp [.nm 14, .nm 17]) (tYesD) (xGc (xBin opIx (xVar 8) (xVar 14))) [14, 17])))) (sExpr (xGc (xMeth [("list", fAppend)] (xVar 11) (aCons (xTup (aCons (xCallF bTuple (aCons (xCallF bSorted (aCons (xLc (iAny (xVar 12)) (.tp [.nm 14, .nm 17]) (tYesD) (xGc (xTup (aCons (xBin opIx (xVar 8) (xVar 14)) (aCons (xVar 17) (aNil))))) [14, 17]) (aNil))) (aNil))) (aCons (xVar 13) (aNil)))) (aNil))))) (sNil))) (sIf (tGc (tOo (tB (xBin opNe (xCall 22 (aCons (xVar 2) (aCons (xVar 3) (aCons (xVar 10) (aNil))))) (xCallF bTuple (aCons (xCallF bSorted (aCons (xVar 11) (aNil))) (aNil))))) (tB (xBin opNe (xCall 32 (aCons (xLit (.fn 22)) (aCons (xTup (aCons (xVar 2) (aCons (xLit .non) (aCons (xVar 10) (aNil))))) (aNil)))) (xLit (.str "change")))))) (sRet (xGc (xLit (.bl false)))) (sNil))))) (sNil)) (sSeq (sSet 9 (xGc (xLst (aCons (xLit .non) (aCons (xBin opAdd (xTup (aCons (xLit (.str "change")) (aCons (xTup (aNil)) (aCons (xTup (aNil)) (aNil))))) (xTup (aCons (xTup (aNil)) (aNil)))) (aCons (xTup (aCons (xLit (.str "change")) (aCons (xLst (aNil)) (aCons (xTup (aNil)) (aNil))))) (aCons (xTup (aCons (xLit (.str "change")) (aCons (xTup (aCons (xTup (aCons (xLit (.str "e")) (aCons (xTup (aCons (xLit (.str "zz")) (aCons (xLit (.str "zz")) (aNil)))) (aNil)))) (aNil))) (aCons (xTup (aNil)) (aNil))))) (aCons (xTup (aCons (xLit (.str "change")) (aCons (xTup (aNil)) (aCons (xTup (aCons (xTup (aCons (xLit (.str "e")) (aCons (xTup (aCons (xLit (.str "a")) (aNil))) (aNil)))) (aCons (xTup (aCons (xLit (.str "e")) (aCons (xTup (aCons (xLit (.str "a")) (aCons (xLit (.str "b")) (aNil)))) (aNil)))) (aNil)))) (aNil))))) (aCons (xTup (aCons (xLit (.str "change")) (aCons (xTup (aNil)) (aCons (xTup (aCons (xTup (aCons (xLit (.str "e")) (aCons (xTup (aCons (xLit (.str "A")) (aCons (xLit (.str "b")) (aNil)))) (aNil)))) (aNil))) (aNil))))) (aCons (xTup (aCons (xLit (.str "changes")) (aCons (xTup (aNil)) (aCons (xTup (aNil)) (aNil))))) (aNil))))))))))) (sSeq (sExpr (xGc (xMeth [("list", fAppend)] (xVar 9) (aCons (xIf (tB (xBin opNe (xBin opIx (xVar 2) (xLit (.int 1))) (xTup (aNil)))) (xTup (aCons (xLit (.str "change")) (aCons (xTup (aNil)) (aCons (xSl (xBin opIx (xVar 2) (xLit (.int 1))) (oNone) (oSome (xLit (.int 1)))) (aNil))))) (xLit (.int 5))) (aNil))))) (sSeq (sIf (tGc (tOo (tB (xBin opNe (xLc (iAny (xVar 9)) (.nm 15) (tYesD) (xGc (xCall 13 (aCons (xVar 2) (aCons (xVar 15) (aNil))))) [15]) (xBin opMul (xLst (aCons (xLit (.bl false)) (aNil))) (xLit (.int 8))))) (tOo (tB (xBin opNe (xLc (iAny (xVar 9)) (.nm 15) (tYesD) (xGc (xCall 32 (aCons (xLit (.fn 16)) (aCons (xTup (aCons (xVar 2) (aCons (xVar 15) (aNil)))) (aNil))))) [15]) (xBin opMul (xLst (aCons (xLit (.str "change")) (aNil))) (xLit (.int 8))))) (tB (xBin opNe (xLc (iAny (xVar 9)) (.nm 15) (tYesD) (xGc (xCall 32 (aCons (xLit (.fn 20)) (aCons (xTup (aCons (xVar 2) (aCons (xVar 15) (aNil)))) (aNil))))) [15]) (xBin opMul (xLst (aCons (xLit (.str "change")) (aNil))) (xLit (.int 8)))))))) (sRet (xGc (xLit (.bl false)))) (sNil)) (sSeq (sIf (tGc (tOo (tB (xBin opNe (xCall 32 (aCons (xLit (.fn 22)) (aCons (xTup (aCons (xVar 2) (aCons (xVar 3) (aCons (xTup (aCons (xTup (aCons (xTup (aNil)) (aCons (xLit (.int 0)) (aNil)))) (aNil))) (aNil))))) (aNil)))) (xLit (.str "sum")))) (tB (xBin opNe (xCall 32 (aCons (xLit (.fn 22)) (aCons (xTup (aCons (xVar 2) (aCons (xVar 3) (aCons (xTup (aCons (xTup (aCons (xTup (aCons (xTup (aCons (xLit (.int 40)) (aCons (xLit (.int 1)) (aNil)))) (aNil))) (aCons (xLit (.int 1)) (aNil)))) (aNil))) (aNil))))) (aNil)))) (xLit (.str "sum")))))) (sRet (xGc (xLit (.bl false)))) (sNil)) (sRet (xGc (xAnd (xBin opEq (xLc (iAny (xLst (aCons (xLit (.fn 16)) (aCons (xLit (.fn 20)) (aCons (xLit (.fn 13)) (aNil)))))) (.nm 16) (tYesD) (xGc (xCall 32 (aCons (xVar 16) (aCons (xTup (aCons (xLit .non) (aCons (xVar 3) (aNil)))) (aNil))))) [16]) (xBin opMul (xLst (aCons (xLit (.str "tables")) (aNil))) (xLit (.int 3)))) (xAnd (xBin opEq (xCall 32 (aCons (xLit (.fn 18)) (aCons (xTup (aCons (xVar 2) (aCons (xVar 3) (aCons (xBin opIx (xVar 9) (xLit (.int 3))) (aNil))))) (aNil)))) (xLit (.str "change"))) (xBin opEq (xCall 32 (aCons (xLit (.fn 17)) (aCons (xTup (aCons (xLit .non) (aNil))) (aNil)))) (xLit (.str "change")))))))))))))))))))))))
def n34 : Dn := ⟨"_law_case", top 52, 1, ["bag", "values", "tables", "change", "after", "other", "last", "one", "numbers", "odd", "told", "due", "product", "number", "row", "value", "call", "times"], d34⟩
theorem b34 : BodyOk tx n34 := by
  intro G fe k P w K mg base f cdv A outer s H E h
  show PSs _ _ (tS _ _ _ d34)
  exact (sseq_ok (h.set 1 (xgc_ok (h.toOk.call 26 (h.toOk.ac (h.toOk.v 0) (anil_ok))))) (sseq_ok (h.set 2 (xgc_ok (h.toOk.call 28 (h.toOk.ac (h.toOk.v 0) (h.toOk.ac (h.toOk.v 1) (h.toOk.ac (h.toOk.int) (anil_ok))))))) (sseq_ok (h.set 3 (xgc_ok (h.toOk.call 30 (h.toOk.ac (h.toOk.v 0) (h.toOk.ac (h.toOk.v 2) (h.toOk.ac (h.toOk.v 1) (anil_ok))))))) (sseq_ok (h.set 4 (xgc_ok (h.toOk.call 31 (h.toOk.ac (h.toOk.v 2) (h.toOk.ac (h.toOk.v 3) (anil_ok)))))) (sseq_ok (sif_ok (tgc_ok ((too_ok (h.toOk.tisn (h.toOk.call 13 (h.toOk.ac (h.toOk.v 2) (h.toOk.ac (h.toOk.v 3) (anil_ok)))) (h.toOk.bo)) (too_ok (h.toOk.tne (h.toOk.call 16 (h.toOk.ac (h.toOk.v 2) (h.toOk.ac (h.toOk.v 3) (anil_ok)))) (h.toOk.v 4)) (too1_ok (h.toOk.tne (h.toOk.call 17 (h.toOk.ac (h.toOk.v 3) (anil_ok))) (xtup_ok (h.toOk.ac (h.toOk.str) (h.toOk.ac (h.toOk.ix (h.toOk.v 3) (h.toOk.int)) (h.toOk.ac (h.toOk.ix (h.toOk.v 3) (h.toOk.int)) (anil_ok))))))))).pt)) (sone_ok (sret_ok (xgc_ok (h.toOk.bo)))) (snil_ok)) (sseq_ok (sif_ok (tgc_ok (h.toOk.tne (h.toOk.call 16 (h.toOk.ac (h.toOk.v 4) (h.toOk.ac (h.toOk.call 17 (h.toOk.ac (h.toOk.v 3) (anil_ok))) (anil_ok)))) (h.toOk.v 2))) (sone_ok (sret_ok (xgc_ok (h.toOk.bo)))) (snil_ok)) (sseq_ok (h.set 5 (xgc_ok (h.toOk.call 30 (h.toOk.ac (h.toOk.v 0) (h.toOk.ac (h.toOk.v 4) (h.toOk.ac (h.toOk.v 1) (anil_ok))))))) (sseq_ok (h.set 6 (xgc_ok (h.toOk.call 31 (h.toOk.ac (h.toOk.v 4) (h.toOk.ac (h.toOk.v 5) (anil_ok)))))) (sseq_ok (h.set 7 (xgc_ok (xtup_ok (h.toOk.ac (h.toOk.str) (h.toOk.ac (h.toOk.ty (bTuple_ok h.toOk.on) 6 (h.toOk.ac (h.toOk.lc (own := [("row", 14)]) (blkOk_by (by kernel_rfl)) (h.toOk.it (h.toOk.ix (h.toOk.v 2) (h.toOk.int))) (fun _ _ _ _ _ h9 => h9.nm 14) (fun _ _ _ _ _ h9 => tone_ok (tgc_ok (h9.tnin (h9.v 14) (h9.ix (h9.v 6) (h9.int))))) (fun _ _ _ _ _ h9 => xgc_ok (h9.v 14))) (anil_ok)) boot_tuple) (h.toOk.ac (h.toOk.ty (bTuple_ok h.toOk.on) 6 (h.toOk.ac (h.toOk.lc (own := [("row", 14)]) (blkOk_by (by kernel_rfl)) (h.toOk.it (h.toOk.ix (h.toOk.v 6) (h.toOk.int))) (fun _ _ _ _ _ h8 => h8.nm 14) (fun _ _ _ _ _ h8 => tone_ok (tgc_ok (h8.tnin (h8.v 14) (h8.ix (h8.v 2) (h8.int))))) (fun _ _ _ _ _ h8 => xgc_ok (h8.v 14))) (anil_ok)) boot_tuple) (anil_ok))))))) (sseq_ok (sif_ok (tgc_ok ((too_ok (h.toOk.tne (h.toOk.call 18 (h.toOk.ac (h.toOk.v 2) (h.toOk.ac (h.toOk.v 3) (h.toOk.ac (h.toOk.v 5) (anil_ok))))) (h.toOk.v 7)) (too1_ok (h.toOk.tne (h.toOk.call 16 (h.toOk.ac (h.toOk.v 2) (h.toOk.ac (h.toOk.v 7) (anil_ok)))) (h.toOk.v 6)))).pt)) (sone_ok (sret_ok (xgc_ok (h.toOk.bo)))) (snil_ok)) (sseq_ok (h.set 8 (xgc_ok (h.toOk.ty (bTuple_ok h.toOk.on) 6 (h.toOk.ac (h.toOk.lc (own := [("row", 14)]) (blkOk_by (by kernel_rfl)) (h.toOk.it (h.toOk.ix (h.toOk.v 2) (h.toOk.int))) (fun _ _ _ _ _ h7 => h7.nm 14) (fun _ _ _ _ _ h7 => tyes_ok) (fun _ _ _ _ _ h7 => xgc_ok (xif_ok (h7.tin_ (h7.v 14) (h7.ix (h7.v 4) (h7.int))) (h7.mt2 (fIndexL_ok h7.on h7.u64) (fIndexT_ok h7.on h7.u64) (h7.ix (h7.v 4) (h7.int)) (h7.ac (h7.v 14) (anil_ok))) (h7.non)))) (anil_ok)) boot_tuple))) (sseq_ok (sif_ok (tgc_ok (h.toOk.tne (h.toOk.call 20 (h.toOk.ac (h.toOk.v 2) (h.toOk.ac (h.toOk.v 3) (anil_ok)))) (h.toOk.v 8))) (sone_ok (sret_ok (xgc_ok (h.toOk.bo)))) (snil_ok)) (sseq_ok (sif_ok (tgc_ok (h.toOk.tne (h.toOk.ix (h.toOk.v 2) (h.toOk.int)) (xtup_ok (anil_ok)))) (sseq_ok (h.set 10 (xgc_ok (h.toOk.call 33 (h.toOk.ac (h.toOk.v 0) (h.toOk.ac (h.toOk.bi (bLen_ok h.toOk.on) 5 (h.toOk.ac (h.toOk.ix (h.toOk.v 2) (h.toOk.int)) (anil_ok)) PySem.boot_len) (anil_ok)))))) (sseq_ok (h.set 11 (xgc_ok (xlst_ok (anil_ok)))) (sseq_ok (h.for_ (h.toOk.it (h.toOk.v 10)) (h.toOk.tpl (h.toOk.pc (h.toOk.nm 12) (h.toOk.pc (h.toOk.nm 13) (pnil_ok)))) (sone_ok (sif_ok (tgc_ok (h.toOk.tnin (h.toOk.non) (h.toOk.lc (own := [("row", 14), ("times", 17)]) (blkOk_by (by kernel_rfl)) (h.toOk.it (h.toOk.v 12)) (fun _ _ _ _ _ h5 => h5.tpl (h5.pc (h5.nm 14) (h5.pc (h5.nm 17) (pnil_ok)))) (fun _ _ _ _ _ h5 => tyes_ok) (fun _ _ _ _ _ h5 => xgc_ok (h5.ix (h5.v 8) (h5.v 14)))))) (sone_ok (sx (xgc_ok (h.toOk.mt1 (fAppend_ok h.toOk.on) (h.toOk.v 11) (h.toOk.ac (xtup_ok (h.toOk.ac (h.toOk.ty (bTuple_ok h.toOk.on) 6 (h.toOk.ac (h.toOk.bi (bSorted_ok h.toOk.on h.toOk.calm h.toOk.u64) 8 (h.toOk.ac (h.toOk.lc (own := [("row", 14), ("times", 17)]) (blkOk_by (by kernel_rfl)) (h.toOk.it (h.toOk.v 12)) (fun _ _ _ _ _ h6 => h6.tpl (h6.pc (h6.nm 14) (h6.pc (h6.nm 17) (pnil_ok)))) (fun _ _ _ _ _ h6 => tyes_ok) (fun _ _ _ _ _ h6 => xgc_ok (xtup_ok (h6.ac (h6.ix (h6.v 8) (h6.v 14)) (h6.ac (h6.v 17) (anil_ok)))))) (anil_ok)) boot_sorted) (anil_ok)) boot_tuple) (h.toOk.ac (h.toOk.v 13) (anil_ok)))) (anil_ok)))))) (snil_ok)))) (sone_ok (sif_ok (tgc_ok ((too_ok (h.toOk.tne (h.toOk.call 22 (h.toOk.ac (h.toOk.v 2) (h.toOk.ac (h.toOk.v 3) (h.toOk.ac (h.toOk.v 10) (anil_ok))))) (h.toOk.ty (bTuple_ok h.toOk.on) 6 (h.toOk.ac (h.toOk.bi (bSorted_ok h.toOk.on h.toOk.calm h.toOk.u64) 8 (h.toOk.ac (h.toOk.v 11) (anil_ok)) boot_sorted) (anil_ok)) boot_tuple)) (too1_ok (h.toOk.tne (h.toOk.call 32 (h.toOk.ac (h.toOk.fv 22) (h.toOk.ac (xtup_ok (h.toOk.ac (h.toOk.v 2) (h.toOk.ac (h.toOk.non) (h.toOk.ac (h.toOk.v 10) (anil_ok))))) (anil_ok)))) (h.toOk.str)))).pt)) (sone_ok (sret_ok (xgc_ok (h.toOk.bo)))) (snil_ok)))))) (snil_ok)) (sseq_ok (h.set 9 (xgc_ok (xlst_ok (h.toOk.ac (h.toOk.non) (h.toOk.ac (h.toOk.add (xtup_ok (h.toOk.ac (h.toOk.str) (h.toOk.ac (xtup_ok (anil_ok)) (h.toOk.ac (xtup_ok (anil_ok)) (anil_ok))))) (xtup_ok (h.toOk.ac (xtup_ok (anil_ok)) (anil_ok)))) (h.toOk.ac (xtup_ok (h.toOk.ac (h.toOk.str) (h.toOk.ac (xlst_ok (anil_ok)) (h.toOk.ac (xtup_ok (anil_ok)) (anil_ok))))) (h.toOk.ac (xtup_ok (h.toOk.ac (h.toOk.str) (h.toOk.ac (xtup_ok (h.toOk.ac (xtup_ok (h.toOk.ac (h.toOk.str) (h.toOk.ac (xtup_ok (h.toOk.ac (h.toOk.str) (h.toOk.ac (h.toOk.str) (anil_ok)))) (anil_ok)))) (anil_ok))) (h.toOk.ac (xtup_ok (anil_ok)) (anil_ok))))) (h.toOk.ac (xtup_ok (h.toOk.ac (h.toOk.str) (h.toOk.ac (xtup_ok (anil_ok)) (h.toOk.ac (xtup_ok (h.toOk.ac (xtup_ok (h.toOk.ac (h.toOk.str) (h.toOk.ac (xtup_ok (h.toOk.ac (h.toOk.str) (anil_ok))) (anil_ok)))) (h.toOk.ac (xtup_ok (h.toOk.ac (h.toOk.str) (h.toOk.ac (xtup_ok (h.toOk.ac (h.toOk.str) (h.toOk.ac (h.toOk.str) (anil_ok)))) (anil_ok)))) (anil_ok)))) (anil_ok))))) (h.toOk.ac (xtup_ok (h.toOk.ac (h.toOk.str) (h.toOk.ac (xtup_ok (anil_ok)) (h.toOk.ac (xtup_ok (h.toOk.ac (xtup_ok (h.toOk.ac (h.toOk.str) (h.toOk.ac (xtup_ok (h.toOk.ac (h.toOk.str) (h.toOk.ac (h.toOk.str) (anil_ok)))) (anil_ok)))) (anil_ok))) (anil_ok))))) (h.toOk.ac (xtup_ok (h.toOk.ac (h.toOk.str) (h.toOk.ac (xtup_ok (anil_ok)) (h.toOk.ac (xtup_ok (anil_ok)) (anil_ok))))) (anil_ok))))))))))) (sseq_ok (sx (xgc_ok (h.toOk.mt1 (fAppend_ok h.toOk.on) (h.toOk.v 9) (h.toOk.ac (xif_ok (h.toOk.tne (h.toOk.ix (h.toOk.v 2) (h.toOk.int)) (xtup_ok (anil_ok))) (xtup_ok (h.toOk.ac (h.toOk.str) (h.toOk.ac (xtup_ok (anil_ok)) (h.toOk.ac (h.toOk.sl (h.toOk.ix (h.toOk.v 2) (h.toOk.int)) (onone_ok) (osome_ok (h.toOk.int))) (anil_ok))))) (h.toOk.int)) (anil_ok))))) (sseq_ok (sif_ok (tgc_ok ((too_ok (h.toOk.tne (h.toOk.lc (own := [("value", 15)]) (blkOk_by (by kernel_rfl)) (h.toOk.it (h.toOk.v 9)) (fun _ _ _ _ _ h2 => h2.nm 15) (fun _ _ _ _ _ h2 => tyes_ok) (fun _ _ _ _ _ h2 => xgc_ok (h2.call 13 (h2.ac (h2.v 2) (h2.ac (h2.v 15) (anil_ok)))))) (h.toOk.mul (xlst_ok (h.toOk.ac (h.toOk.bo) (anil_ok))) (h.toOk.int))) (too_ok (h.toOk.tne (h.toOk.lc (own := [("value", 15)]) (blkOk_by (by kernel_rfl)) (h.toOk.it (h.toOk.v 9)) (fun _ _ _ _ _ h3 => h3.nm 15) (fun _ _ _ _ _ h3 => tyes_ok) (fun _ _ _ _ _ h3 => xgc_ok (h3.call 32 (h3.ac (h3.fv 16) (h3.ac (xtup_ok (h3.ac (h3.v 2) (h3.ac (h3.v 15) (anil_ok)))) (anil_ok)))))) (h.toOk.mul (xlst_ok (h.toOk.ac (h.toOk.str) (anil_ok))) (h.toOk.int))) (too1_ok (h.toOk.tne (h.toOk.lc (own := [("value", 15)]) (blkOk_by (by kernel_rfl)) (h.toOk.it (h.toOk.v 9)) (fun _ _ _ _ _ h4 => h4.nm 15) (fun _ _ _ _ _ h4 => tyes_ok) (fun _ _ _ _ _ h4 => xgc_ok (h4.call 32 (h4.ac (h4.fv 20) (h4.ac (xtup_ok (h4.ac (h4.v 2) (h4.ac (h4.v 15) (anil_ok)))) (anil_ok)))))) (h.toOk.mul (xlst_ok (h.toOk.ac (h.toOk.str) (anil_ok))) (h.toOk.int)))))).pt)) (sone_ok (sret_ok (xgc_ok (h.toOk.bo)))) (snil_ok)) (sseq_ok (sif_ok (tgc_ok ((too_ok (h.toOk.tne (h.toOk.call 32 (h.toOk.ac (h.toOk.fv 22) (h.toOk.ac (xtup_ok (h.toOk.ac (h.toOk.v 2) (h.toOk.ac (h.toOk.v 3) (h.toOk.ac (xtup_ok (h.toOk.ac (xtup_ok (h.toOk.ac (xtup_ok (anil_ok)) (h.toOk.ac (h.toOk.int) (anil_ok)))) (anil_ok))) (anil_ok))))) (anil_ok)))) (h.toOk.str)) (too1_ok (h.toOk.tne (h.toOk.call 32 (h.toOk.ac (h.toOk.fv 22) (h.toOk.ac (xtup_ok (h.toOk.ac (h.toOk.v 2) (h.toOk.ac (h.toOk.v 3) (h.toOk.ac (xtup_ok (h.toOk.ac (xtup_ok (h.toOk.ac (xtup_ok (h.toOk.ac (xtup_ok (h.toOk.ac (h.toOk.int) (h.toOk.ac (h.toOk.int) (anil_ok)))) (anil_ok))) (h.toOk.ac (h.toOk.int) (anil_ok)))) (anil_ok))) (anil_ok))))) (anil_ok)))) (h.toOk.str)))).pt)) (sone_ok (sret_ok (xgc_ok (h.toOk.bo)))) (snil_ok)) (sone_ok (sret_ok (xgc_ok (xand_ok (h.toOk.eq (h.toOk.lc (own := [("call", 16)]) (blkOk_by (by kernel_rfl)) (h.toOk.it (xlst_ok (h.toOk.ac (h.toOk.fv 16) (h.toOk.ac (h.toOk.fv 20) (h.toOk.ac (h.toOk.fv 13) (anil_ok)))))) (fun _ _ _ _ _ h1 => h1.nm 16) (fun _ _ _ _ _ h1 => tyes_ok) (fun _ _ _ _ _ h1 => xgc_ok (h1.call 32 (h1.ac (h1.v 16) (h1.ac (xtup_ok (h1.ac (h1.non) (h1.ac (h1.v 3) (anil_ok)))) (anil_ok)))))) (h.toOk.mul (xlst_ok (h.toOk.ac (h.toOk.str) (anil_ok))) (h.toOk.int))) (xand_ok (h.toOk.eq (h.toOk.call 32 (h.toOk.ac (h.toOk.fv 18) (h.toOk.ac (xtup_ok (h.toOk.ac (h.toOk.v 2) (h.toOk.ac (h.toOk.v 3) (h.toOk.ac (h.toOk.ix (h.toOk.v 9) (h.toOk.int)) (anil_ok))))) (anil_ok)))) (h.toOk.str)) (pe_one (h.toOk.eq (h.toOk.call 32 (h.toOk.ac (h.toOk.fv 17) (h.toOk.ac (xtup_ok (h.toOk.ac (h.toOk.non) (anil_ok))) (anil_ok)))) (h.toOk.str)))))))))))))))))))))))))
theorem ok34 : DefOk tx n34 := ⟨by decide, ⟨rfl, rfl, rfl, by decide +kernel, rfl, by decide +kernel, by decide +kernel⟩, b34⟩
/-- law: script, tables, k -/
def d35 : DenS := sSeq (sSet 1 (xGc (xTup (aCons (xLit (.str "tables")) (aCons (xTup (aCons (xTup (aCons (xLit (.str "e")) (aCons (xTup (aCons (xLit (.str "a")) (aCons (xLit (.str "b")) (aNil)))) (aNil)))) (aNil))) (aNil)))))) (sSeq (sIf (tGc (tOo (tB (xBin opNe (xCall 32 (aCons (xLit (.fn 18)) (aCons (xTup (aCons (xVar 1) (aCons (xTup (aCons (xLit (.str "change")) (aCons (xBin opIx (xVar 1) (xLit (.int 1))) (aCons (xTup (aNil)) (aNil))))) (aCons (xTup (aCons (xLit (.str "change")) (aCons (xTup (aNil)) (aCons (xTup (aCons (xTup (aCons (xLit (.str "e")) (aCons (xTup (aCons (xLit (.str "a")) (aNil))) (aNil)))) (aNil))) (aNil))))) (aNil))))) (aNil)))) (xLit (.str "none")))) (tB (xBin opNe (xCall 18 (aCons (xVar 1) (aCons (xTup (aCons (xLit (.str "change")) (aCons (xBin opIx (xVar 1) (xLit (.int 1))) (aCons (xTup (aNil)) (aNil))))) (aCons (xTup (aCons (xLit (.str "change")) (aCons (xTup (aNil)) (aCons (xBin opIx (xVar 1) (xLit (.int 1))) (aNil))))) (aNil))))) (xTup (aCons (xLit (.str "change")) (aCons (xTup (aNil)) (aCons (xTup (aNil)) (aNil))))))))) (sRet (xGc (xLit (.bl false)))) (sNil)) (sSeq (sFor (iRange1 (aCons (xCallF bMin (aCons (xCallF bMax (aCons (xCallF bLen (aCons (xVar 0) (aNil))) (aCons (xLit (.int 1)) (aNil)))) (aCons (xLit (.int 5)) (aNil)))) (aNil))) (.nm 2) (sIf (tGc (tNt (tVal (xCall 34 (aCons (xCall 23 (aCons (xVar 0) (aCons (xVar 2) (aNil)))) (aNil)))))) (sRet (xGc (xLit (.bl false)))) (sNil))) (sRet (xGc (xLit (.bl true))))))
def n35 : Dn := ⟨"law", top 53, 1, ["script", "tables", "k"], d35⟩
theorem b35 : BodyOk tx n35 := by
  intro G fe k P w K mg base f cdv A outer s H E h
  show PSs _ _ (tS _ _ _ d35)
  exact (sseq_ok (h.set 1 (xgc_ok (xtup_ok (h.toOk.ac (h.toOk.str) (h.toOk.ac (xtup_ok (h.toOk.ac (xtup_ok (h.toOk.ac (h.toOk.str) (h.toOk.ac (xtup_ok (h.toOk.ac (h.toOk.str) (h.toOk.ac (h.toOk.str) (anil_ok)))) (anil_ok)))) (anil_ok))) (anil_ok)))))) (sseq_ok (sif_ok (tgc_ok ((too_ok (h.toOk.tne (h.toOk.call 32 (h.toOk.ac (h.toOk.fv 18) (h.toOk.ac (xtup_ok (h.toOk.ac (h.toOk.v 1) (h.toOk.ac (xtup_ok (h.toOk.ac (h.toOk.str) (h.toOk.ac (h.toOk.ix (h.toOk.v 1) (h.toOk.int)) (h.toOk.ac (xtup_ok (anil_ok)) (anil_ok))))) (h.toOk.ac (xtup_ok (h.toOk.ac (h.toOk.str) (h.toOk.ac (xtup_ok (anil_ok)) (h.toOk.ac (xtup_ok (h.toOk.ac (xtup_ok (h.toOk.ac (h.toOk.str) (h.toOk.ac (xtup_ok (h.toOk.ac (h.toOk.str) (anil_ok))) (anil_ok)))) (anil_ok))) (anil_ok))))) (anil_ok))))) (anil_ok)))) (h.toOk.str)) (too1_ok (h.toOk.tne (h.toOk.call 18 (h.toOk.ac (h.toOk.v 1) (h.toOk.ac (xtup_ok (h.toOk.ac (h.toOk.str) (h.toOk.ac (h.toOk.ix (h.toOk.v 1) (h.toOk.int)) (h.toOk.ac (xtup_ok (anil_ok)) (anil_ok))))) (h.toOk.ac (xtup_ok (h.toOk.ac (h.toOk.str) (h.toOk.ac (xtup_ok (anil_ok)) (h.toOk.ac (h.toOk.ix (h.toOk.v 1) (h.toOk.int)) (anil_ok))))) (anil_ok))))) (xtup_ok (h.toOk.ac (h.toOk.str) (h.toOk.ac (xtup_ok (anil_ok)) (h.toOk.ac (xtup_ok (anil_ok)) (anil_ok)))))))).pt)) (sone_ok (sret_ok (xgc_ok (h.toOk.bo)))) (snil_ok)) (sseq_ok (h.for_ (h.toOk.rg1 11 (h.toOk.ac (h.toOk.bi (bMin_ok h.toOk.on h.toOk.calm) 13 (h.toOk.ac (h.toOk.bi (bMax_ok h.toOk.on h.toOk.calm) 12 (h.toOk.ac (h.toOk.bi (bLen_ok h.toOk.on) 5 (h.toOk.ac (h.toOk.v 0) (anil_ok)) PySem.boot_len) (h.toOk.ac (h.toOk.int) (anil_ok))) boot_max) (h.toOk.ac (h.toOk.int) (anil_ok))) boot_min) (anil_ok))) (h.toOk.nm 2) (sone_ok (sif_ok (tgc_ok (h.toOk.tn (h.toOk.tv (h.toOk.call 34 (h.toOk.ac (h.toOk.call 23 (h.toOk.ac (h.toOk.v 0) (h.toOk.ac (h.toOk.v 2) (anil_ok)))) (anil_ok)))))) (sone_ok (sret_ok (xgc_ok (h.toOk.bo)))) (snil_ok)))) (sone_ok (sret_ok (xgc_ok (h.toOk.bo)))))))
theorem ok35 : DefOk tx n35 := ⟨by decide, ⟨rfl, rfl, rfl, by decide +kernel, rfl, by decide +kernel, by decide +kernel⟩, b35⟩
theorem bd0 : BindOk n0 := fun _ _ _ _ _ _ us hl => match us, hl with | [_, _, _], _ => rfl
theorem bd1 : BindOk n1 := fun _ _ _ _ _ _ us hl => match us, hl with | [_], _ => rfl
theorem bd2 : BindOk n2 := fun _ _ _ _ _ _ us hl => match us, hl with | [_], _ => rfl
theorem bd3 : BindOk n3 := fun _ _ _ _ _ _ us hl => match us, hl with | [_], _ => rfl
theorem bd4 : BindOk n4 := fun _ _ _ _ _ _ us hl => match us, hl with | [_], _ => rfl
theorem bd5 : BindOk n5 := fun _ _ _ _ _ _ us hl => match us, hl with | [_], _ => rfl
theorem bd6 : BindOk n6 := fun _ _ _ _ _ _ us hl => match us, hl with | [_], _ => rfl
theorem bd7 : BindOk n7 := fun _ _ _ _ _ _ us hl => match us, hl with | [_], _ => rfl
theorem bd8 : BindOk n8 := fun _ _ _ _ _ _ us hl => match us, hl with | [_], _ => rfl
theorem bd9 : BindOk n9 := fun _ _ _ _ _ _ us hl => match us, hl with | [_, _], _ => rfl
theorem bd10 : BindOk n10 := fun _ _ _ _ _ _ us hl => match us, hl with | [_], _ => rfl
theorem bd11 : BindOk n11 := fun _ _ _ _ _ _ us hl => match us, hl with | [_], _ => rfl
theorem bd12 : BindOk n12 := fun _ _ _ _ _ _ us hl => match us, hl with | [_, _], _ => rfl
theorem bd13 : BindOk n13 := fun _ _ _ _ _ _ us hl => match us, hl with | [_, _], _ => rfl
theorem bd14 : BindOk n14 := fun _ _ _ _ _ _ us hl => match us, hl with | [_, _], _ => rfl
theorem bd15 : BindOk n15 := fun _ _ _ _ _ _ us hl => match us, hl with | [_, _], _ => rfl
theorem bd16 : BindOk n16 := fun _ _ _ _ _ _ us hl => match us, hl with | [_, _], _ => rfl
theorem bd17 : BindOk n17 := fun _ _ _ _ _ _ us hl => match us, hl with | [_], _ => rfl
theorem bd18 : BindOk n18 := fun _ _ _ _ _ _ us hl => match us, hl with | [_, _, _], _ => rfl
theorem bd19 : BindOk n19 := fun _ _ _ _ _ _ us hl => match us, hl with | [_, _], _ => rfl
theorem bd20 : BindOk n20 := fun _ _ _ _ _ _ us hl => match us, hl with | [_, _], _ => rfl
theorem bd21 : BindOk n21 := fun _ _ _ _ _ _ us hl => match us, hl with | [_, _], _ => rfl
theorem bd22 : BindOk n22 := fun _ _ _ _ _ _ us hl => match us, hl with | [_, _, _], _ => rfl
theorem bd23 : BindOk n23 := fun _ _ _ _ _ _ us hl => match us, hl with | [_, _], _ => rfl
theorem bd24 : BindOk n24 := fun _ _ _ _ _ _ us hl => match us, hl with | [_, _], _ => rfl
theorem bd25 : BindOk n25 := fun _ _ _ _ _ _ us hl => match us, hl with | [_, _], _ => rfl
theorem bd26 : BindOk n26 := fun _ _ _ _ _ _ us hl => match us, hl with | [_], _ => rfl
theorem bd27 : BindOk n27 := fun _ _ _ _ _ _ us hl => match us, hl with | [], _ => rfl
theorem bd28 : BindOk n28 := fun _ _ _ _ _ _ us hl => match us, hl with | [_, _, _], _ => rfl
theorem bd29 : BindOk n29 := fun _ _ _ _ _ _ us hl => match us, hl with | [_, _], _ => rfl
theorem bd30 : BindOk n30 := fun _ _ _ _ _ _ us hl => match us, hl with | [_, _, _], _ => rfl
theorem bd31 : BindOk n31 := fun _ _ _ _ _ _ us hl => match us, hl with | [_, _], _ => rfl
theorem bd32 : BindOk n32 := fun _ _ _ _ _ _ us hl => match us, hl with | [_, _], _ => rfl
theorem bd33 : BindOk n33 := fun _ _ _ _ _ _ us hl => match us, hl with | [_, _], _ => rfl
theorem bd34 : BindOk n34 := fun _ _ _ _ _ _ us hl => match us, hl with | [_], _ => rfl
theorem bd35 : BindOk n35 := fun _ _ _ _ _ _ us hl => match us, hl with | [_], _ => rfl
noncomputable def ds : List Dn := n0 :: n1 :: n2 :: n3 :: n4 :: n5 :: n6 :: n7 :: n8 :: n9 :: n10 :: n11 :: n12 :: n13 :: n14 :: n15 :: n16 :: n17 :: n18 :: n19 :: n20 :: n21 :: n22 :: n23 :: n24 :: n25 :: n26 :: n27 :: n28 :: n29 :: n30 :: n31 :: n32 :: n33 :: n34 :: n35 :: []
theorem r0 (n : Nat) : run ds (n + 1) 0 = fun vs m => gcO m (bodyD 3 3 d0 (run ds n) vs m) := run_at (d := n0) rfl
theorem r1 (n : Nat) : run ds (n + 1) 1 = fun vs m => gcO m (bodyD 1 2 d1 (run ds n) vs m) := run_at (d := n1) rfl
theorem r2 (n : Nat) : run ds (n + 1) 2 = fun vs m => gcO m (bodyD 1 2 d2 (run ds n) vs m) := run_at (d := n2) rfl
theorem r3 (n : Nat) : run ds (n + 1) 3 = fun vs m => gcO m (bodyD 1 2 d3 (run ds n) vs m) := run_at (d := n3) rfl
theorem r4 (n : Nat) : run ds (n + 1) 4 = fun vs m => gcO m (bodyD 1 3 d4 (run ds n) vs m) := run_at (d := n4) rfl
theorem r5 (n : Nat) : run ds (n + 1) 5 = fun vs m => gcO m (bodyD 1 4 d5 (run ds n) vs m) := run_at (d := n5) rfl
theorem r6 (n : Nat) : run ds (n + 1) 6 = fun vs m => gcO m (bodyD 1 2 d6 (run ds n) vs m) := run_at (d := n6) rfl
theorem r7 (n : Nat) : run ds (n + 1) 7 = fun vs m => gcO m (bodyD 1 1 d7 (run ds n) vs m) := run_at (d := n7) rfl
theorem r8 (n : Nat) : run ds (n + 1) 8 = fun vs m => gcO m (bodyD 1 2 d8 (run ds n) vs m) := run_at (d := n8) rfl
theorem r9 (n : Nat) : run ds (n + 1) 9 = fun vs m => gcO m (bodyD 2 5 d9 (run ds n) vs m) := run_at (d := n9) rfl
theorem r10 (n : Nat) : run ds (n + 1) 10 = fun vs m => gcO m (bodyD 1 2 d10 (run ds n) vs m) := run_at (d := n10) rfl
theorem r11 (n : Nat) : run ds (n + 1) 11 = fun vs m => gcO m (bodyD 1 1 d11 (run ds n) vs m) := run_at (d := n11) rfl
theorem r12 (n : Nat) : run ds (n + 1) 12 = fun vs m => gcO m (bodyD 2 4 d12 (run ds n) vs m) := run_at (d := n12) rfl
theorem r13 (n : Nat) : run ds (n + 1) 13 = fun vs m => gcO m (bodyD 2 2 d13 (run ds n) vs m) := run_at (d := n13) rfl
theorem r14 (n : Nat) : run ds (n + 1) 14 = fun vs m => gcO m (bodyD 2 2 d14 (run ds n) vs m) := run_at (d := n14) rfl
theorem r15 (n : Nat) : run ds (n + 1) 15 = fun vs m => gcO m (bodyD 2 4 d15 (run ds n) vs m) := run_at (d := n15) rfl
theorem r16 (n : Nat) : run ds (n + 1) 16 = fun vs m => gcO m (bodyD 2 2 d16 (run ds n) vs m) := run_at (d := n16) rfl
theorem r17 (n : Nat) : run ds (n + 1) 17 = fun vs m => gcO m (bodyD 1 1 d17 (run ds n) vs m) := run_at (d := n17) rfl
theorem r18 (n : Nat) : run ds (n + 1) 18 = fun vs m => gcO m (bodyD 3 9 d18 (run ds n) vs m) := run_at (d := n18) rfl
theorem r19 (n : Nat) : run ds (n + 1) 19 = fun vs m => gcO m (bodyD 2 4 d19 (run ds n) vs m) := run_at (d := n19) rfl
theorem r20 (n : Nat) : run ds (n + 1) 20 = fun vs m => gcO m (bodyD 2 2 d20 (run ds n) vs m) := run_at (d := n20) rfl
theorem r21 (n : Nat) : run ds (n + 1) 21 = fun vs m => gcO m (bodyD 2 8 d21 (run ds n) vs m) := run_at (d := n21) rfl
theorem r22 (n : Nat) : run ds (n + 1) 22 = fun vs m => gcO m (bodyD 3 3 d22 (run ds n) vs m) := run_at (d := n22) rfl
theorem r23 (n : Nat) : run ds (n + 1) 23 = fun vs m => gcO m (bodyD 2 3 d23 (run ds n) vs m) := run_at (d := n23) rfl
theorem r24 (n : Nat) : run ds (n + 1) 24 = fun vs m => gcO m (bodyD 2 4 d24 (run ds n) vs m) := run_at (d := n24) rfl
theorem r25 (n : Nat) : run ds (n + 1) 25 = fun vs m => gcO m (bodyD 2 2 d25 (run ds n) vs m) := run_at (d := n25) rfl
theorem r26 (n : Nat) : run ds (n + 1) 26 = fun vs m => gcO m (bodyD 1 1 d26 (run ds n) vs m) := run_at (d := n26) rfl
theorem r27 (n : Nat) : run ds (n + 1) 27 = fun vs m => gcO m (bodyD 0 0 d27 (run ds n) vs m) := run_at (d := n27) rfl
theorem r28 (n : Nat) : run ds (n + 1) 28 = fun vs m => gcO m (bodyD 3 7 d28 (run ds n) vs m) := run_at (d := n28) rfl
theorem r29 (n : Nat) : run ds (n + 1) 29 = fun vs m => gcO m (bodyD 2 4 d29 (run ds n) vs m) := run_at (d := n29) rfl
theorem r30 (n : Nat) : run ds (n + 1) 30 = fun vs m => gcO m (bodyD 3 7 d30 (run ds n) vs m) := run_at (d := n30) rfl
theorem r31 (n : Nat) : run ds (n + 1) 31 = fun vs m => gcO m (bodyD 2 3 d31 (run ds n) vs m) := run_at (d := n31) rfl
theorem r32 (n : Nat) : run ds (n + 1) 32 = fun vs m => gcO m (bodyD 2 3 d32 (run ds n) vs m) := run_at (d := n32) rfl
theorem r33 (n : Nat) : run ds (n + 1) 33 = fun vs m => gcO m (bodyD 2 6 d33 (run ds n) vs m) := run_at (d := n33) rfl
theorem r34 (n : Nat) : run ds (n + 1) 34 = fun vs m => gcO m (bodyD 1 18 d34 (run ds n) vs m) := run_at (d := n34) rfl
theorem r35 (n : Nat) : run ds (n + 1) 35 = fun vs m => gcO m (bodyD 1 3 d35 (run ds n) vs m) := run_at (d := n35) rfl
theorem ds_ok : ∀ (j : Nat) (d : Dn), ds[j]? = some d → DefOk tx d := fun j d h => AllL.get (p := DefOk tx) (l := ds) (i := j) ⟨ok0, ok1, ok2, ok3, ok4, ok5, ok6, ok7, ok8, ok9, ok10, ok11, ok12, ok13, ok14, ok15, ok16, ok17, ok18, ok19, ok20, ok21, ok22, ok23, ok24, ok25, ok26, ok27, ok28, ok29, ok30, ok31, ok32, ok33, ok34, ok35, trivial⟩ h
theorem sc_BadPaper : FnScope ["self", "word"] ["self", "word"] (defScope (inClass (top 5) 0)) := ⟨rfl, rfl, rfl, by decide +kernel, rfl, by decide +kernel, by decide +kernel⟩
end K60
end Mn
set_option Elab.async false
set_option linter.all false
set_option maxRecDepth 100000
set_option maxHeartbeats 1000000
namespace Mn
namespace K60
open PySem
theorem s0 (n : Nat) (i lo hi : Int) (m : Mem) : run ds (n + 1) 0 [.int i, .int lo, .int hi] m = .ok (.bl (decide (lo ≤ i) && decide (i ≤ hi))) m := by
  simp [r0, d0, tyN, isT, opLe]
def lets : Str := "abcdefghijklmnopqrstuvwxyz"
def digs : Str := "0123456789"
/-- a value whose type and length are told -/
def known : D → Bool
  | .str s => decide (s.cps.size ≤ sizeLine)
  | .loc _ => false
  | .fn _ => false
  | .tup xs => decide (xs.length ≤ sizeLine)
  | _ => true
def signB : D → Bool
  | .str z => z.cps.toList.all fun c => decide (c ∈ lets.cps.toList) || decide (c ∈ digs.cps.toList)
  | _ => false
def letB : D → Bool
  | .str z => z.cps.toList.all fun c => decide (c ∈ lets.cps.toList)
  | _ => false
def valB : D → Bool
  | .str s => decide (1 ≤ s.cps.size) && decide (s.cps.size ≤ 4) && (signs s).all signB
  | _ => false
def nameB : D → Bool
  | .str s => decide (1 ≤ s.cps.size) && decide (s.cps.size ≤ 6) && (signs s).all letB
  | _ => false
theorem len_is (s : Str) : s.length = s.cps.size := rfl
theorem s1 (n : Nat) (d : D) (m : Mem) (h : known d = true) : run ds (n + 1) 1 [d] m = .ok (.bl (valB d)) m := by
  cases d with
  | str s =>
    have hs : s.cps.size ≤ sizeLine := by simpa [known] using h
    have hlc := xLc_bools (fe := run ds n) (ρ := [some (.str s), none]) (m := m) (m1 := m) (it := iAny (xVar 0)) (p := .nm 1) (own := [1]) (e := xGc (xOr (xBin opIn (xVar 1) (xLit (.str "abcdefghijklmnopqrstuvwxyz"))) (xBin opIn (xVar 1) (xLit (.str "0123456789"))))) signB (xs := signs s) (w := []) (by simp) rfl (by simpa [signs] using hs) fun x hx => by
      obtain ⟨c, hc, rfl⟩ := List.mem_map.mp hx
      refine ⟨_, rfl, ?_⟩
      simp [wipeE, opIn, inM, lets, digs, signB]
    by_cases c : 1 ≤ s.cps.size ∧ s.cps.size ≤ 4
    · have c1 : ¬ ((s.cps.size : Int) < 1 ∨ 4 < (s.cps.size : Int)) := by omega
      simp [r1, d1, tyN, isT, opLe, bLen, hs, truth, valB, len_is, c1, hlc]
      simp [c]
    · have c1 : (s.cps.size : Int) < 1 ∨ 4 < (s.cps.size : Int) := by omega
      have c2 : (decide (1 ≤ s.cps.size) && decide (s.cps.size ≤ 4)) = false := by simpa using c
      simp [r1, d1, tyN, isT, opLe, bLen, hs, truth, valB, len_is, c1, -Nat.not_le, c2]
  | loc l => simp [known] at h
  | fn l => simp [known] at h
  | _ => simp [r1, d1, tyN, isT, valB, truth]
theorem s2 (n : Nat) (d : D) (m : Mem) (h : known d = true) : run ds (n + 1) 2 [d] m = .ok (.bl (nameB d)) m := by
  cases d with
  | str s =>
    have hs : s.cps.size ≤ sizeLine := by simpa [known] using h
    have hlc := xLc_bools (fe := run ds n) (ρ := [some (.str s), none]) (m := m) (m1 := m) (it := iAny (xVar 0)) (p := .nm 1) (own := [1]) (e := xGc (xBin opIn (xVar 1) (xLit (.str "abcdefghijklmnopqrstuvwxyz")))) letB (xs := signs s) (w := []) (by simp) rfl (by simpa [signs] using hs) fun x hx => by
      obtain ⟨c, hc, rfl⟩ := List.mem_map.mp hx
      refine ⟨_, rfl, ?_⟩
      simp [wipeE, opIn, inM, lets, letB]
    by_cases c : 1 ≤ s.cps.size ∧ s.cps.size ≤ 6
    · have c1 : ¬ ((s.cps.size : Int) < 1 ∨ 6 < (s.cps.size : Int)) := by omega
      simp [r2, d2, tyN, isT, opLe, bLen, hs, truth, nameB, len_is, c1, hlc]
      simp [c]
    · have c1 : (s.cps.size : Int) < 1 ∨ 6 < (s.cps.size : Int) := by omega
      have c2 : (decide (1 ≤ s.cps.size) && decide (s.cps.size ≤ 6)) = false := by simpa using c
      simp [r2, d2, tyN, isT, opLe, bLen, hs, truth, nameB, len_is, c1, -Nat.not_le, c2]
  | loc l => simp [known] at h
  | fn l => simp [known] at h
  | _ => simp [r2, d2, tyN, isT, nameB, truth]
/-- a row -/
def rowB : D → Bool
  | .tup [a, .tup vs] => nameB a && (decide (1 ≤ vs.length) && decide (vs.length ≤ 4) && vs.all valB)
  | _ => false
/-- known through and through, so far as is_row looks -/
def knownR : D → Bool
  | .tup xs => decide (xs.length ≤ sizeLine) && xs.all fun d => known d && (match d with
    | .tup ys => ys.all known
    | _ => true)
  | d => known d
theorem s3 (n : Nat) (d : D) (m : Mem) (h : knownR d = true) : run ds (n + 2) 3 [d] m = .ok (.bl (rowB d)) m := by
  cases d with
  | tup xs =>
    match xs with
    | [a, b] =>
      simp only [knownR, List.all_cons, List.all_nil, Bool.and_true, Bool.and_eq_true, decide_eq_true_eq] at h
      obtain ⟨_, ⟨ha, _⟩, hb, hb2⟩ := h
      cases b with
      | tup vs =>
        have hvs : vs.length ≤ sizeLine := by simpa [known] using hb
        have hlc := xLc_bools (fe := run ds (n + 1)) (ρ := [some (.tup [a, .tup vs]), none]) (m := m) (m1 := m) (it := iAny (xBin opIx (xVar 0) (xLit (.int 1)))) (p := .nm 1) (own := [1]) (e := xGc (xCall 1 (aCons (xVar 1) aNil))) valB (xs := vs) (w := []) (by simp [opIx]) rfl hvs fun x hx => by
          refine ⟨_, rfl, ?_⟩
          simp [wipeE, s1 n x m (List.all_eq_true.mp hb2 x hx)]
        by_cases c : nameB a = true
        · by_cases c2 : 1 ≤ vs.length ∧ vs.length ≤ 4
          · have c3 : (1 : Int) ≤ vs.length ∧ (vs.length : Int) ≤ 4 := by omega
            simp [r3, d3, tyN, isT, bLen, truth, opNe, eqM, pureD, eqv, opIx, s2 n a m ha, c, opLe, hlc, rowB, c3]
            simp [c2]
          · have c3 : ¬ ((1 : Int) ≤ vs.length ∧ (vs.length : Int) ≤ 4) := by omega
            have c4 : (decide (1 ≤ vs.length) && decide (vs.length ≤ 4)) = false := by simpa using c2
            simp [r3, d3, tyN, isT, bLen, truth, opNe, eqM, pureD, eqv, opIx, s2 n a m ha, c, opLe, hlc, rowB, c3, c4, -Nat.not_le]
        · simp [r3, d3, tyN, isT, bLen, truth, opNe, eqM, pureD, eqv, opIx, s2 n a m ha, c, rowB]
      | loc l => simp [known] at hb
      | fn l => simp [known] at hb
      | _ => simp [r3, d3, tyN, isT, bLen, truth, opNe, eqM, pureD, eqv, opIx, s2 n a m ha, rowB]
    | [] => simp [r3, d3, tyN, isT, bLen, truth, opNe, eqM, pureD, eqv, rowB]
    | [a] => simp [r3, d3, tyN, isT, bLen, truth, opNe, eqM, pureD, eqv, rowB]
    | a :: b :: c :: r =>
      have c1 : ¬ ((r.length : Int) + 1 + 1 + 1 = 2) := by omega
      simp [r3, d3, tyN, isT, bLen, truth, opNe, eqM, pureD, eqv, rowB, c1]
  | loc l => simp [knownR, known] at h
  | fn l => simp [knownR, known] at h
  | _ => simp [r3, d3, tyN, isT, rowB, truth]
theorem s4 (n : Nat) (xs : List D) (m : Mem) (h : ascOk xs = true) (hl : xs.length ≤ sizeLine) : run ds (n + 1) 4 [.tup xs] m = .ok (.bl (ascD xs)) m := by
  have hlc := xLc_bools (fe := run ds n) (ρ := [some (.tup xs), none, none]) (m := m) (m1 := m) (it := iZipD (aCons (xVar 0) (aCons (xSl (xVar 0) (oSome (xLit (.int 1))) oNone) aNil))) (p := .tp [.nm 1, .nm 2]) (own := [1, 2]) (e := xGc (xBin opLt (xVar 1) (xVar 2))) pairLt (xs := zipD xs xs.tail) (w := [])
    (by simp [opSl, zipI]) rfl (by simp [zipD]; omega) fun x hx => by
      obtain ⟨a, b, rfl, hab⟩ := zip_ok xs h x hx
      refine ⟨_, rfl, ?_⟩
      simp [wipeE, opLt_of hab, pairLt]
  simp [r4, d4, hlc, zip_asc]
end K60
end Mn
set_option Elab.async false
set_option linter.all false
set_option maxRecDepth 100000
set_option maxHeartbeats 1000000
namespace Mn
namespace K60
open PySem
def fitGo : List (D × D) → List D → Bool
  | _, [] => true
  | kvs, .tup [name, .tup things] :: r => (match dGet kvs name with
    | some v => decide (v = .int things.length) && fitGo kvs r
    | none => fitGo (dPut kvs name (.int things.length)) r)
  | _, _ => false
/-- names with tuples -/
def namedB : D → Bool
  | .tup [.str _, .tup _] => true
  | _ => false
/-- a dict of numbers at names -/
def strInt (kvs : List (D × D)) : Bool := kvs.all fun q => (match q.1 with
  | .str _ => true
  | _ => false) && (match q.2 with
  | .int _ => true
  | _ => false)
theorem strInt_get {kvs : List (D × D)} {k v : D} (h : strInt kvs = true) (e : dGet kvs k = some v) : ∃ i, v = .int i := by
  unfold dGet at e
  obtain ⟨q, hq, rfl⟩ := Option.map_eq_some_iff.mp e
  have := List.all_eq_true.mp h q (List.mem_of_find?_eq_some hq)
  obtain ⟨a, b⟩ := q
  cases b <;> simp at this
  exact ⟨_, rfl⟩
theorem strInt_kind {kvs : List (D × D)} (h : strInt kvs = true) (z : Str) : kindOk kvs (.str z) = true := by
  have : (kvs.all fun p => (keyM p.1).isSome) = true := List.all_eq_true.mpr fun q hq => by
    have := List.all_eq_true.mp h q hq
    obtain ⟨a, b⟩ := q
    cases a <;> simp at this <;> simp [keyM]
  unfold kindOk
  rw [this]
  simp [keyM]
theorem dPut_none {kvs : List (D × D)} {k v : D} (e : dGet kvs k = none) : dPut kvs k v = kvs ++ [(k, v)] := by simp [dPut, e]
def fitB (xs : List D) : Bool := fitGo [] xs
def b5b : DenS := sIf (tGc (tB (xBin opNe (xMeth [("dict", fSetd)] (xVar 1) (aCons (xVar 2) (aCons (xCallF bLen (aCons (xVar 3) (aNil))) (aNil)))) (xCallF bLen (aCons (xVar 3) (aNil)))))) (sRet (xGc (xLit (.bl false)))) (sNil)
theorem s5go (fe : FE) (m : Mem) (p0 : D) : ∀ (xs : List D) (kvs : List (D × D)) (o2 o3 : Option D), xs.all namedB = true → strInt kvs = true → kvs.length + xs.length < sizeLine →
    ∃ (kvs' : List (D × D)) (o2' o3' : Option D), forGo (b5b fe) (.tp [.nm 2, .nm 3]) [] xs [some p0, some (.loc m.length), o2, o3] (m ++ [.dict kvs false]) = if fitGo kvs xs = true then .next [some p0, some (.loc m.length), o2', o3'] (m ++ [.dict kvs' false]) else .ret (.bl false) (m ++ [.dict kvs' false])
  | [], kvs, o2, o3, _, _, _ => ⟨kvs, o2, o3, by simp [forGo, fitGo]⟩
  | x :: xs, kvs, o2, o3, hn, hs, hl => by
    simp only [List.all_cons, Bool.and_eq_true, List.length_cons] at hn hl
    obtain ⟨hx, hn⟩ := hn
    unfold namedB at hx
    split at hx
    · rename_i z vs
      have hk := strInt_kind hs z
      have hl1 : kvs.length < sizeLine := by omega
      cases e : dGet kvs (.str z) with
      | some v =>
        obtain ⟨i, rfl⟩ := strInt_get hs e
        by_cases c : i = vs.length
        · subst c
          have hb : b5b fe [some p0, some (.loc m.length), some (.str z), some (.tup vs)] (m ++ [.dict kvs false]) = .next [some p0, some (.loc m.length), some (.str z), some (.tup vs)] (m ++ [.dict kvs false]) := by
            simp [b5b, bLen, tyD, fSetd, hk, hl1, e, opNe, eqM, pureD, eqv]
          obtain ⟨kvs', o2', o3', h⟩ := s5go fe m p0 xs kvs (some (.str z)) (some (.tup vs)) hn hs (by omega)
          refine ⟨kvs', o2', o3', ?_⟩
          simp [forGo, bindP, bindPs, hb, h, fitGo, e]
        · have c' : ¬ ((vs.length : Int) = i) := fun q => c q.symm
          have hb : b5b fe [some p0, some (.loc m.length), some (.str z), some (.tup vs)] (m ++ [.dict kvs false]) = .ret (.bl false) (m ++ [.dict kvs false]) := by
            simp [b5b, bLen, tyD, fSetd, hk, hl1, e, opNe, eqM, pureD, eqv, c]
          refine ⟨kvs, some (.str z), some (.tup vs), ?_⟩
          simp [forGo, bindP, bindPs, hb, fitGo, e, c]
      | none =>
        have hb : b5b fe [some p0, some (.loc m.length), some (.str z), some (.tup vs)] (m ++ [.dict kvs false]) = .next [some p0, some (.loc m.length), some (.str z), some (.tup vs)] (m ++ [.dict (dPut kvs (.str z) (.int vs.length)) false]) := by
          simp [b5b, bLen, tyD, fSetd, hk, hl1, e, opNe, eqM, pureD, eqv]
        obtain ⟨kvs', o2', o3', h⟩ := s5go fe m p0 xs (dPut kvs (.str z) (.int vs.length)) (some (.str z)) (some (.tup vs)) hn (by
          rw [dPut_none e]
          simp only [strInt, List.all_append, Bool.and_eq_true]
          exact ⟨hs, by simp⟩) (by rw [dPut_none e]; simp; omega)
        refine ⟨kvs', o2', o3', ?_⟩
        simp [forGo, bindP, bindPs, hb, h, fitGo, e]
    · cases hx
theorem s5 (n : Nat) (xs : List D) (m : Mem) (h : xs.all namedB = true) (hl : xs.length < sizeLine) : run ds (n + 1) 5 [.tup xs] m = .ok (.bl (fitB xs)) m := by
  obtain ⟨kvs', o2', o3', e⟩ := s5go (run ds n) m (.tup xs) xs [] none none h rfl (by simpa using hl)
  have e' : sFor (iAny (xVar 0)) (.tp [.nm 2, .nm 3]) b5b (run ds n) [some (.tup xs), some (.loc m.length), none, none] (m ++ [.dict [] false]) = if fitGo [] xs = true then .next [some (.tup xs), some (.loc m.length), o2', o3'] (m ++ [.dict kvs' false]) else .ret (.bl false) (m ++ [.dict kvs' false]) := by
    unfold sFor
    simp only [iAny_ev, xVar_ev, List.getElem?_cons_zero, Out.bind_ok, ofE_ok, lockM, e]
    cases c : fitGo [] xs <;> simp [unlockS, unlockM]
  have ed : d5 = sSeq (sSet 1 (xGc (xEmpty))) (sSeq (sFor (iAny (xVar 0)) (.tp [.nm 2, .nm 3]) b5b) (sRet (xGc (xLit (.bl true))))) := rfl
  rw [r5, ed]
  cases c : fitGo [] xs <;> rw [c] at e' <;> simp [xEmpty, gcO, closed, e', fitB, c]
end K60
end Mn
set_option Elab.async false
set_option linter.all false
set_option maxRecDepth 100000
set_option maxHeartbeats 1000000
namespace Mn
namespace K60
open PySem
theorem let_ok {c : Nat} (h : c ∈ lets.cps.toList) : c < 0x110000 := by
  have : ∀ c ∈ lets.cps.toList, c < 0x110000 := by decide +kernel
  exact this c h
theorem dig_ok {c : Nat} (h : c ∈ digs.cps.toList) : c < 0x110000 := by
  have : ∀ c ∈ digs.cps.toList, c < 0x110000 := by decide +kernel
  exact this c h
theorem name_str {d : D} (h : nameB d = true) : ∃ z, d = .str z ∧ PyData.strOk z = true ∧ z.cps.size ≤ sizeLine := by
  cases d <;> simp only [nameB, Bool.false_eq_true] at h
  rename_i z
  simp only [Bool.and_eq_true, decide_eq_true_eq, signs, List.all_map, List.all_eq_true, Function.comp_apply, letB] at h
  refine ⟨z, rfl, ?_, by rw [sizeLine_is]; omega⟩
  simp only [PyData.strOk, Array.all_eq_true_iff_forall_mem, decide_eq_true_eq]
  intro c hc
  have := h.2 c (by simpa using hc)
  exact let_ok (by simpa using this)
theorem val_str {d : D} (h : valB d = true) : ∃ z, d = .str z ∧ PyData.strOk z = true ∧ z.cps.size ≤ sizeLine := by
  cases d <;> simp only [valB, Bool.false_eq_true] at h
  rename_i z
  simp only [Bool.and_eq_true, decide_eq_true_eq, signs, List.all_map, List.all_eq_true, Function.comp_apply, signB] at h
  refine ⟨z, rfl, ?_, by rw [sizeLine_is]; omega⟩
  simp only [PyData.strOk, Array.all_eq_true_iff_forall_mem, decide_eq_true_eq]
  intro c hc
  have := h.2 c (by simpa using hc)
  simp only [List.all_cons, List.all_nil, Bool.and_true, Bool.or_eq_true, decide_eq_true_eq] at this
  have this : c ∈ lets.cps.toList ∨ c ∈ digs.cps.toList := by first | exact this | exact this c (by simp)
  rcases this with q | q
  · exact let_ok q
  · exact dig_ok q
/-- texts in tuples -/
def isStr : D → Bool
  | .str z => PyData.strOk z
  | _ => false
theorem str_pure {k : Nat} : ∀ {xs : List D}, xs.all isStr = true → pureDs k xs = true
  | [], _ => rfl
  | x :: xs, h => by
    simp only [List.all_cons, Bool.and_eq_true] at h
    cases x <;> simp only [isStr, Bool.false_eq_true, false_and] at h
    simp [pureDs, pureD, h.1, str_pure h.2]
theorem str_comp : ∀ {xs ys : List D}, xs.all isStr = true → ys.all isStr = true → compAll (toPys xs) (toPys ys) = true
  | [], ys, _, _ => by simp [toPys, compAll]
  | x :: xs, [], _, _ => by simp [toPys, compAll]
  | x :: xs, y :: ys, h, g => by
    simp only [List.all_cons, Bool.and_eq_true] at h g
    cases x <;> simp only [isStr, Bool.false_eq_true, false_and] at h
    cases y <;> simp only [isStr, Bool.false_eq_true, false_and] at g
    simp only [toPys, toPy, compAll, str_comp h.2 g.2, comp, ite_self]
theorem row_shape {d : D} (h : rowB d = true) : ∃ z vs, d = .tup [.str z, .tup vs] ∧ PyData.strOk z = true ∧ z.cps.size ≤ sizeLine ∧ 1 ≤ vs.length ∧ vs.length ≤ 4 ∧ vs.all valB = true ∧ vs.all isStr = true := by
  unfold rowB at h
  split at h
  · rename_i a vs
    simp only [Bool.and_eq_true, decide_eq_true_eq] at h
    obtain ⟨z, rfl, h1, h2⟩ := name_str h.1
    refine ⟨z, vs, rfl, h1, h2, h.2.1.1, h.2.1.2, h.2.2, List.all_eq_true.mpr fun x hx => ?_⟩
    obtain ⟨z', rfl, h3, _⟩ := val_str (List.all_eq_true.mp h.2.2 x hx)
    exact h3
  · cases h
theorem row_pure {d : D} {k : Nat} (h : rowB d = true) : pureD (k + 2) d = true := by
  obtain ⟨z, vs, rfl, h1, _, _, _, _, h2⟩ := row_shape h
  simp [pureD, pureDs, h1, str_pure h2]
theorem row_comp {a b : D} (ha : rowB a = true) (hb : rowB b = true) : comp (toPy a) (toPy b) = true := by
  obtain ⟨z, vs, rfl, _, _, _, _, _, h2⟩ := row_shape ha
  obtain ⟨z', vs', rfl, _, _, _, _, _, h2'⟩ := row_shape hb
  simp only [toPy, toPys, comp, compAll, str_comp h2 h2', ite_self]
theorem row_ltOk {a b : D} (ha : rowB a = true) (hb : rowB b = true) : ltOk a b = true := by
  have h1 := row_pure (k := 10) ha
  have h2 := row_pure (k := 10) hb
  have h3 := row_comp ha hb
  obtain ⟨z, vs, rfl, _⟩ := row_shape ha
  obtain ⟨z', vs', rfl, _⟩ := row_shape hb
  simp only [ltOk, Bool.and_eq_true]
  exact ⟨⟨h1, h2⟩, h3⟩
theorem rows_ascOk : ∀ {xs : List D}, xs.all rowB = true → ascOk xs = true
  | [], _ => rfl
  | [a], _ => rfl
  | a :: b :: r, h => by
    simp only [List.all_cons, Bool.and_eq_true] at h
    simp only [ascOk, Bool.and_eq_true]
    exact ⟨row_ltOk h.1 h.2.1, rows_ascOk (by simp [h.2.1, h.2.2])⟩
theorem rows_named {xs : List D} (h : xs.all rowB = true) : xs.all namedB = true := List.all_eq_true.mpr fun x hx => by
  obtain ⟨z, vs, rfl, _⟩ := row_shape (List.all_eq_true.mp h x hx)
  rfl
theorem row_known {d : D} (h : rowB d = true) : knownR d = true := by
  obtain ⟨z, vs, rfl, h1, h2, h3, h4, h5, h6⟩ := row_shape h
  simp only [knownR, known, List.all_cons, List.all_nil, Bool.and_true, Bool.and_eq_true, decide_eq_true_eq, List.length_cons, List.length_nil]
  rw [sizeLine_is] at *
  refine ⟨by omega, h2, by omega, List.all_eq_true.mpr fun x hx => ?_⟩
  obtain ⟨z', rfl, _, h7⟩ := val_str (List.all_eq_true.mp h5 x hx)
  simpa [known, sizeLine_is] using h7
/-- the tables of these rows are tables -/
def tabB (xs : List D) : Bool := decide (xs.length ≤ 40) && xs.all rowB && ascD xs && fitB xs
abbrev tab (xs : List D) : D := .tup [.str "tables", .tup xs]
theorem tables_ok : PyData.strOk ("tables" : Str) = true := by decide +kernel
theorem s6 (n : Nat) (xs : List D) (m : Mem) (h : xs.all knownR = true) (hl : xs.length < sizeLine) : run ds (n + 3) 6 [tab xs] m = .ok (.bl (tabB xs)) m := by
  have hlc := xLc_bools (fe := run ds (n + 2)) (ρ := [some (tab xs), none]) (m := m) (m1 := m) (it := iAny (xBin opIx (xVar 0) (xLit (.int 1)))) (p := .nm 1) (own := [1]) (e := xGc (xCall 3 (aCons (xVar 1) aNil))) rowB (xs := xs) (w := [])
    (by simp [opIx, tab]) rfl (by omega) fun x hx => by
      refine ⟨_, rfl, ?_⟩
      simp [wipeE, s3 n x m (List.all_eq_true.mp h x hx)]
  by_cases c : xs.length ≤ 40
  · have c1 : ¬ (40 < (xs.length : Int)) := by omega
    by_cases c2 : xs.all rowB = true
    · simp [r6, d6, tab, tyN, isT, bLen, truth, opNe, eqM, pureD, tables_ok, eqv, opIx, opGt, c1, hlc, c2, s4 (n + 1) xs m (rows_ascOk c2) (by omega), s5 (n + 1) xs m (rows_named c2) hl, tabB]
      simp [c]
    · simp only [Bool.not_eq_true] at c2
      simp [r6, d6, tab, tyN, isT, bLen, truth, opNe, eqM, pureD, tables_ok, eqv, opIx, opGt, c1, hlc, c2, tabB]
  · have c1 : 40 < (xs.length : Int) := by omega
    simp [r6, d6, tab, tyN, isT, bLen, truth, opNe, eqM, pureD, tables_ok, eqv, opIx, opGt, c1, c, tabB]
theorem s6n (n : Nat) (m : Mem) : run ds (n + 1) 6 [.non] m = .ok (.bl false) m := by simp [r6, d6, tyN, isT, truth]
end K60
end Mn
set_option Elab.async false
set_option linter.all false
set_option maxRecDepth 100000
set_option maxHeartbeats 1000000
namespace Mn
namespace K60
open PySem
mutual
/-- no truth value, no place within -/
def noBl : D → Bool
  | .non => true
  | .int _ => true
  | .str _ => true
  | .tup xs => noBls xs
  | _ => false
def noBls : List D → Bool
  | [] => true
  | x :: xs => noBl x && noBls xs
end
mutual
theorem eqv_eq : ∀ (a b : D), noBl a = true → noBl b = true → (eqv a b = decide (a = b))
  | .non, b, _, h => by cases b <;> simp_all [eqv, noBl]
  | .int i, b, _, h => by cases b <;> simp_all [eqv, noBl]; rename_i j; by_cases c : i = j <;> simp [c]
  | .str i, b, _, h => by cases b <;> simp_all [eqv, noBl]; rename_i j; by_cases c : i = j <;> simp [c]
  | .tup xs, b, g, h => by
    cases b <;> simp_all [eqv, noBl]
    rename_i ys
    exact eqvs_eq xs ys g h
  | .bl _, b, g, _ => by simp [noBl] at g
  | .seq _, b, g, _ => by simp [noBl] at g
  | .loc _, b, g, _ => by simp [noBl] at g
  | .fn _, b, g, _ => by simp [noBl] at g
theorem eqvs_eq : ∀ (a b : List D), noBls a = true → noBls b = true → (eqvs a b = decide (a = b))
  | [], b, _, h => by cases b <;> simp [eqvs]
  | x :: xs, [], _, h => by simp [eqvs]
  | x :: xs, y :: ys, g, h => by
    simp only [noBls, Bool.and_eq_true] at g h
    simp [eqvs, eqv_eq x y g.1 h.1, eqvs_eq xs ys g.2 h.2]
end
theorem str_noBl : ∀ {xs : List D}, xs.all isStr = true → noBls xs = true
  | [], _ => rfl
  | x :: xs, h => by
    simp only [List.all_cons, Bool.and_eq_true] at h
    cases x <;> simp only [isStr, Bool.false_eq_true, false_and] at h
    simp [noBls, noBl, str_noBl h.2]
theorem row_noBl {d : D} (h : rowB d = true) : noBl d = true := by
  obtain ⟨z, vs, rfl, _, _, _, _, _, h2⟩ := row_shape h
  simp [noBl, noBls, str_noBl h2]
theorem rows_noBl : ∀ {xs : List D}, xs.all rowB = true → noBls xs = true
  | [], _ => rfl
  | x :: xs, h => by
    simp only [List.all_cons, Bool.and_eq_true] at h
    simp [noBls, row_noBl h.1, rows_noBl h.2]
theorem rows_pure {k : Nat} : ∀ {xs : List D}, xs.all rowB = true → pureDs (k + 2) xs = true
  | [], _ => rfl
  | x :: xs, h => by
    simp only [List.all_cons, Bool.and_eq_true] at h
    simp [pureDs, row_pure h.1, rows_pure h.2]
theorem row_in {d : D} {xs : List D} {m : Mem} (h : rowB d = true) (hx : xs.all rowB = true) : inM m d (.tup xs) = some (decide (d ∈ xs)) := by
  have e : (xs.any fun z => eqv z d) = decide (d ∈ xs) := by
    rw [Bool.eq_iff_iff]
    simp only [List.any_eq_true, decide_eq_true_eq]
    constructor
    · rintro ⟨z, hz, q⟩
      rw [eqv_eq z d (row_noBl (List.all_eq_true.mp hx z hz)) (row_noBl h)] at q
      rw [← of_decide_eq_true q]; exact hz
    · intro q
      exact ⟨d, q, by rw [eqv_eq d d (row_noBl h) (row_noBl h)]; simp⟩
  simp [inM, row_pure (k := 10) h, rows_pure (k := 9) hx, e]
theorem s7 (n : Nat) (xs : List D) (m : Mem) (h : xs.all knownR = true) (hl : xs.length < sizeLine) : run ds (n + 4) 7 [tab xs] m = if tabB xs = true then .ok .non m else .exc 1 none m := by
  cases c : tabB xs <;> simp [r7, d7, s6 n xs m h hl, truth, c]
theorem s7n (n : Nat) (m : Mem) : run ds (n + 2) 7 [.non] m = .exc 1 none m := by simp [r7, d7, s6n, truth]
def rowsB (xs : List D) : Bool := xs.all rowB && ascD xs
theorem s10 (n : Nat) (xs : List D) (m : Mem) (h : xs.all knownR = true) (hl : xs.length ≤ sizeLine) : run ds (n + 3) 10 [.tup xs] m = .ok (.bl (rowsB xs)) m := by
  have hlc := xLc_bools (fe := run ds (n + 2)) (ρ := [some (.tup xs), none]) (m := m) (m1 := m) (it := iAny (xVar 0)) (p := .nm 1) (own := [1]) (e := xGc (xCall 3 (aCons (xVar 1) aNil))) rowB (xs := xs) (w := [])
    (by simp) rfl hl fun x hx => by
      refine ⟨_, rfl, ?_⟩
      simp [wipeE, s3 n x m (List.all_eq_true.mp h x hx)]
  by_cases c : xs.all rowB = true
  · have h4 := fun m => s4 (n + 1) xs m (rows_ascOk c) hl
    simp [r10, d10, tyN, isT, hlc, c, h4, rowsB]
  · simp only [Bool.not_eq_true] at c
    simp [r10, d10, tyN, isT, hlc, c, rowsB]
theorem s10l (n : Nat) (l : Nat) (ys : List D) (m : Mem) (h : m[l]? = some (.lst ys)) : run ds (n + 1) 10 [.loc l] m = .ok (.bl false) m := by
  simp [r10, d10, tyN, h, isT]
abbrev chg (a b : List D) : D := .tup [.str "change", .tup a, .tup b]
theorem change_ok : PyData.strOk ("change" : Str) = true := by decide +kernel
theorem s11 (n : Nat) (a b : List D) (m : Mem) (ha : a.all knownR = true) (hb : b.all knownR = true) (hla : a.length ≤ sizeLine) (hlb : b.length ≤ sizeLine) : run ds (n + 4) 11 [chg a b] m = .ok (.bl (rowsB a && rowsB b)) m := by
  simp [r11, d11, chg, tyN, isT, bLen, truth, opNe, eqM, pureD, change_ok, eqv, opIx, s10 n a m ha hla, s10 n b m hb hlb]
theorem rows_sortable {xs : List D} (h : xs.all rowB = true) : sortable xs = true := by
  simp only [sortable, Bool.and_eq_true, List.all_eq_true]
  exact ⟨fun x hx => row_pure (k := 10) (List.all_eq_true.mp h x hx), fun a ha b hb => row_comp (List.all_eq_true.mp h a ha) (List.all_eq_true.mp h b hb)⟩
theorem sort_mem {xs : List D} {d : D} : d ∈ sortD xs ↔ d ∈ xs := by unfold sortD; exact List.mem_mergeSort
theorem sort_all {xs : List D} {p : D → Bool} (h : xs.all p = true) : (sortD xs).all p = true := List.all_eq_true.mpr fun x hx => List.all_eq_true.mp h x (sort_mem.mp hx)
theorem sort_len (xs : List D) : (sortD xs).length = xs.length := by unfold sortD; exact List.length_mergeSort _
theorem rows_known {xs : List D} (h : xs.all rowB = true) : xs.all knownR = true := List.all_eq_true.mpr fun x hx => row_known (List.all_eq_true.mp h x hx)
/-- a change goes with tables -/
def goesB (xs a b : List D) : Bool := rowsB a && rowsB b && (a.all fun d => decide (d ∈ xs)) && !(b.any fun d => decide (d ∈ xs)) && tabB (sortD (xs ++ b))
theorem s12 (n : Nat) (xs a b : List D) (m : Mem) (hx : xs.all rowB = true) (hlx : xs.length ≤ 1000) (ha : a.all knownR = true) (hb : b.all knownR = true) (hla : a.length ≤ 1000) (hlb : b.length ≤ 1000) : run ds (n + 5) 12 [tab xs, chg a b] m = .ok (.bl (goesB xs a b)) m := by
  have z := sizeLine_is
  have h11 := fun m => s11 n a b m ha hb (by omega) (by omega)
  by_cases c : rowsB a = true ∧ rowsB b = true
  · obtain ⟨c1, c2⟩ := c
    have q1 : a.all rowB = true := by simp only [rowsB, Bool.and_eq_true] at c1; exact c1.1
    have q2 : b.all rowB = true := by simp only [rowsB, Bool.and_eq_true] at c2; exact c2.1
    have hA := fun ρ0 => xLc_bools (fe := run ds (n + 4)) (ρ := [some (tab xs), some (chg a b), some (.tup xs), ρ0]) (m := m) (m1 := m) (it := iAny (xBin opIx (xVar 1) (xLit (.int 1)))) (p := .nm 3) (own := [3]) (e := xGc (xBin opIn (xVar 3) (xVar 2))) (fun d => decide (d ∈ xs)) (xs := a) (w := [])
      (by simp [opIx, chg]) rfl (by omega) fun x hx' => by
        refine ⟨_, rfl, ?_⟩
        simp [wipeE, opIn, row_in (List.all_eq_true.mp q1 x hx') hx]
    have hB := fun m ρ0 => xLc_bools (fe := run ds (n + 4)) (ρ := [some (tab xs), some (chg a b), some (.tup xs), ρ0]) (m := m) (m1 := m) (it := iAny (xBin opIx (xVar 1) (xLit (.int 2)))) (p := .nm 3) (own := [3]) (e := xGc (xBin opIn (xVar 3) (xVar 2))) (fun d => decide (d ∈ xs)) (xs := b) (w := [])
      (by simp [opIx, chg]) rfl (by omega) fun x hx' => by
        refine ⟨_, rfl, ?_⟩
        simp [wipeE, opIn, row_in (List.all_eq_true.mp q2 x hx') hx]
    have hxb : (xs ++ b).all rowB = true := by rw [List.all_append, hx, q2]; rfl
    have h6 := fun m => s6 (n + 1) (sortD (xs ++ b)) m (rows_known (sort_all hxb)) (by rw [sort_len, List.length_append]; omega)
    have hs : ∀ m, bSorted [.tup (xs ++ b)] m = _ := fun m => bSorted_tup (rows_sortable hxb) (by rw [List.length_append]; omega)
    have hl : xs.length + b.length ≤ sizeLine := by omega
    cases c3 : a.all fun d => decide (d ∈ xs) with
    | false =>
      simp [r12, d12, h11, truth, c1, c2, opIx, hA, c3, goesB]
    | true =>
      cases c4 : b.any fun d => decide (d ∈ xs) with
      | true => simp [r12, d12, h11, truth, c1, c2, opIx, hA, hB, c3, c4, goesB]
      | false => simp [r12, d12, h11, truth, c1, c2, opIx, hA, hB, c3, c4, goesB, opAdd, hl, hs, h6]
  · have c' : (rowsB a && rowsB b) = false := by simpa using c
    simp [r12, d12, h11, truth, c', goesB]
end K60
end Mn
set_option Elab.async false
set_option linter.all false
set_option maxRecDepth 100000
set_option maxHeartbeats 1000000
namespace Mn
namespace K60
open PySem
theorem str_closed {k : Nat} : ∀ {xs : List D}, xs.all isStr = true → closeds k xs = true
  | [], _ => rfl
  | x :: xs, h => by
    simp only [List.all_cons, Bool.and_eq_true] at h
    cases x <;> simp only [isStr, Bool.false_eq_true, false_and] at h
    simp [closeds, closed, str_closed h.2]
theorem row_closed {k : Nat} {d : D} (h : rowB d = true) : closed k d = true := by
  obtain ⟨z, vs, rfl, _, _, _, _, _, h2⟩ := row_shape h
  simp [closed, closeds, str_closed h2]
theorem rows_closed {k : Nat} : ∀ {xs : List D}, xs.all rowB = true → closeds k xs = true
  | [], _ => rfl
  | x :: xs, h => by
    simp only [List.all_cons, Bool.and_eq_true] at h
    simp [closeds, row_closed h.1, rows_closed h.2]
theorem tab_closed {k : Nat} {xs : List D} (h : xs.all rowB = true) : closed k (tab xs) = true := by simp [tab, closed, closeds, rows_closed h]
/-- the rows after a change -/
def chgBy (xs a b : List D) : List D := sortD (xs.filter (fun d => decide (d ∉ a)) ++ b)
theorem chgBy_rows {xs a b : List D} (hx : xs.all rowB = true) (hb : b.all rowB = true) : (chgBy xs a b).all rowB = true := by
  refine sort_all ?_
  rw [List.all_append, Bool.and_eq_true]
  exact ⟨List.all_eq_true.mpr fun d hd => List.all_eq_true.mp hx d (List.mem_filter.mp hd).1, hb⟩
theorem chgBy_len (xs a b : List D) : (chgBy xs a b).length ≤ xs.length + b.length := by
  unfold chgBy
  rw [sort_len, List.length_append]
  have := List.length_filter_le (fun d => decide (d ∉ a)) xs
  omega
theorem s15 (n : Nat) (xs a b : List D) (m : Mem) (hx : xs.all rowB = true) (hlx : xs.length ≤ 1000) (ha : a.all rowB = true) (hb : b.all rowB = true) (hlb : b.length ≤ 1000) : run ds (n + 1) 15 [tab xs, chg a b] m = .ok (tab (chgBy xs a b)) m := by
  have z := sizeLine_is
  have hlc := fun ρ0 => xLc_pure (fe := run ds n) (ρ := [some (tab xs), some (chg a b), none, ρ0]) (m := m) (m1 := m) (it := iAny (xBin opIx (xVar 0) (xLit (.int 1)))) (p := .nm 3) (own := [3]) (t := tGc (tB (xBin opNotIn (xVar 3) (xBin opIx (xVar 1) (xLit (.int 1)))))) (e := xGc (xVar 3)) (fun d => decide (d ∉ a)) id (xs := xs) (w := [])
    (by simp [opIx, tab]) rfl (by omega) fun x hx' => by
      refine ⟨_, rfl, ?_, fun _ => ?_⟩
      · simp [wipeE, opNotIn, opIx, row_in (List.all_eq_true.mp hx x hx') ha]
      · simp [wipeE]
  have hxb : (xs.filter (fun d => decide (d ∉ a)) ++ b).all rowB = true := by
    rw [List.all_append, Bool.and_eq_true]
    exact ⟨List.all_eq_true.mpr fun d hd => List.all_eq_true.mp hx d (List.mem_filter.mp hd).1, hb⟩
  have hl : (xs.filter (fun d => decide (d ∉ a))).length + b.length ≤ sizeLine := by
    have := List.length_filter_le (fun d => decide (d ∉ a)) xs
    omega
  have hs := rows_sortable hxb
  have hc := fun k => rows_closed (k := k) (chgBy_rows (a := a) hx hb)
  simp only [List.map_id] at hlc
  generalize hy : xs.filter (fun d => decide (d ∉ a)) = ys at *
  have e : chgBy xs a b = sortD (ys ++ b) := by rw [← hy]; rfl
  rw [e] at hc ⊢
  simp [r15, d15, hlc, opIx, opAdd, hl, bSorted, seqD, hs, bTuple, itemsM, closed, closeds, hc]
theorem s13 (n : Nat) (xs a b : List D) (m : Mem) (hx : xs.all rowB = true) (hlx : xs.length ≤ 1000) (ha : a.all knownR = true) (hb : b.all knownR = true) (hla : a.length ≤ 1000) (hlb : b.length ≤ 1000) (ht : tabB xs = true) : run ds (n + 6) 13 [tab xs, chg a b] m = .ok (.bl (goesB xs a b)) m := by
  have z := sizeLine_is
  have h7 := fun m => s7 (n + 1) xs m (rows_known hx) (by omega)
  simp only [ht, if_true] at h7
  simp [r13, d13, h7, s12 n xs a b _ hx hlx ha hb hla hlb]
theorem s14 (n : Nat) (xs a b : List D) (m : Mem) (hx : xs.all rowB = true) (hlx : xs.length ≤ 1000) (ha : a.all knownR = true) (hb : b.all knownR = true) (hla : a.length ≤ 1000) (hlb : b.length ≤ 1000) : run ds (n + 6) 14 [tab xs, chg a b] m = if goesB xs a b = true then .ok .non m else .exc 4 (some (.str "change")) m := by
  cases c : goesB xs a b <;> simp [r14, d14, s12 n xs a b _ hx hlx ha hb hla hlb, truth, c]
theorem goes_rows {xs a b : List D} (h : goesB xs a b = true) : a.all rowB = true ∧ b.all rowB = true := by
  simp only [goesB, rowsB, Bool.and_eq_true] at h
  exact ⟨h.1.1.1.1.1, h.1.1.1.2.1⟩
theorem s16 (n : Nat) (xs a b : List D) (m : Mem) (hx : xs.all rowB = true) (hlx : xs.length ≤ 1000) (ht : tabB xs = true) (hg : goesB xs a b = true) (hla : a.length ≤ 1000) (hlb : b.length ≤ 1000) : run ds (n + 7) 16 [tab xs, chg a b] m = .ok (tab (chgBy xs a b)) m := by
  have z := sizeLine_is
  obtain ⟨ha, hb⟩ := goes_rows hg
  have h7 := fun m => s7 (n + 2) xs m (rows_known hx) (by omega)
  simp only [ht, if_true] at h7
  have h14 := fun m => s14 n xs a b m hx hlx (rows_known ha) (rows_known hb) hla hlb
  simp only [hg, if_true] at h14
  have h15 := fun m => s15 (n + 5) xs a b m hx hlx ha hb hlb
  simp [r16, d16, h7, h14, h15]
theorem s17 (n : Nat) (a b : List D) (m : Mem) (ha : a.all knownR = true) (hb : b.all knownR = true) (hla : a.length ≤ 1000) (hlb : b.length ≤ 1000) (h : (rowsB a && rowsB b) = true) : run ds (n + 5) 17 [chg a b] m = .ok (chg b a) m := by
  have z := sizeLine_is
  have h11 := fun m => s11 n a b m ha hb (by omega) (by omega)
  rw [h] at h11
  simp [r17, d17, h11, truth, opIx]
end K60
end Mn
set_option Elab.async false
set_option linter.all false
set_option maxRecDepth 100000
set_option maxHeartbeats 1000000
namespace Mn
namespace K60
open PySem
/-- the change from these rows to those -/
def outOf (xs zs : List D) : List D := xs.filter fun d => decide (d ∉ zs)
theorem outOf_rows {xs zs : List D} (hx : xs.all rowB = true) : (outOf xs zs).all rowB = true := List.all_eq_true.mpr fun d hd => List.all_eq_true.mp hx d (List.mem_filter.mp hd).1
theorem outOf_len (xs zs : List D) : (outOf xs zs).length ≤ xs.length := List.length_filter_le _ _
theorem s18 (n : Nat) (xs a b c d : List D) (m : Mem) (hx : xs.all rowB = true) (hlx : xs.length ≤ 100) (ht : tabB xs = true) (hg : goesB xs a b = true) (hla : a.length ≤ 100) (hlb : b.length ≤ 100)
    (hg2 : goesB (chgBy xs a b) c d = true) (hlc : c.length ≤ 100) (hld : d.length ≤ 100) :
    run ds (n + 7) 18 [tab xs, chg a b, chg c d] m = if goesB xs (outOf xs (chgBy (chgBy xs a b) c d)) (outOf (chgBy (chgBy xs a b) c d) xs) = true then .ok (chg (outOf xs (chgBy (chgBy xs a b) c d)) (outOf (chgBy (chgBy xs a b) c d) xs)) m else .exc 5 none m := by
  have z := sizeLine_is
  obtain ⟨ha, hb⟩ := goes_rows hg
  obtain ⟨hc, hd⟩ := goes_rows hg2
  have hy := chgBy_rows (a := a) hx hb
  have hly := chgBy_len xs a b
  have h7 := fun m => s7 (n + 2) xs m (rows_known hx) (by omega)
  simp only [ht, if_true] at h7
  have h14 := fun m => s14 n xs a b m hx (by omega) (rows_known ha) (rows_known hb) (by omega) (by omega)
  simp only [hg, if_true] at h14
  have h15 := fun m => s15 (n + 5) xs a b m hx (by omega) ha hb (by omega)
  have h14' := fun m => s14 n (chgBy xs a b) c d m hy (by omega) (rows_known hc) (rows_known hd) (by omega) (by omega)
  simp only [hg2, if_true] at h14'
  have h15' := fun m => s15 (n + 5) (chgBy xs a b) c d m hy (by omega) hc hd (by omega)
  have hz := chgBy_rows (a := c) hy hd
  have hlz := chgBy_len (chgBy xs a b) c d
  generalize hys : chgBy xs a b = ys at *
  generalize hzs : chgBy ys c d = zs at *
  have l1 := fun ρ5 ρ6 ρ7 ρ8 => xLc_pure (fe := run ds (n + 6)) (ρ := [some (tab xs), some (chg a b), some (chg c d), some (tab ys), some (tab zs), ρ5, ρ6, ρ7, ρ8]) (m := m) (m1 := m) (it := iAny (xBin opIx (xVar 0) (xLit (.int 1)))) (p := .nm 8) (own := [8])
    (t := tGc (tB (xBin opNotIn (xVar 8) (xBin opIx (xVar 4) (xLit (.int 1)))))) (e := xGc (xVar 8)) (fun d => decide (d ∉ zs)) id (xs := xs) (w := []) (by simp [opIx, tab]) rfl (by omega) fun x hx' => by
      refine ⟨_, rfl, ?_, fun _ => ?_⟩
      · simp [wipeE, opNotIn, opIx, row_in (List.all_eq_true.mp hx x hx') hz]
      · simp [wipeE]
  have l2 := fun m ρ5 ρ6 ρ7 ρ8 => xLc_pure (fe := run ds (n + 6)) (ρ := [some (tab xs), some (chg a b), some (chg c d), some (tab ys), some (tab zs), ρ5, ρ6, ρ7, ρ8]) (m := m) (m1 := m) (it := iAny (xBin opIx (xVar 4) (xLit (.int 1)))) (p := .nm 8) (own := [8])
    (t := tGc (tB (xBin opNotIn (xVar 8) (xBin opIx (xVar 0) (xLit (.int 1)))))) (e := xGc (xVar 8)) (fun d => decide (d ∉ xs)) id (xs := zs) (w := []) (by simp [opIx, tab]) rfl (by omega) fun x hx' => by
      refine ⟨_, rfl, ?_, fun _ => ?_⟩
      · simp [wipeE, opNotIn, opIx, row_in (List.all_eq_true.mp hz x hx') hx]
      · simp [wipeE]
  simp only [List.map_id] at l1 l2
  have ho := outOf_rows (zs := zs) hx
  have hk := outOf_rows (zs := xs) hz
  have hlo := outOf_len xs zs
  have hlk := outOf_len zs xs
  have e1 : xs.filter (fun d => decide (d ∉ zs)) = outOf xs zs := rfl
  have e2 : zs.filter (fun d => decide (d ∉ xs)) = outOf zs xs := rfl
  rw [e1] at l1
  rw [e2] at l2
  have c1 := fun k => rows_closed (k := k) ho
  have c2 := fun k => rows_closed (k := k) hk
  have h12 := fun m => s12 (n + 1) xs (outOf xs zs) (outOf zs xs) m hx (by omega) (rows_known ho) (rows_known hk) (by omega) (by omega)
  cases q : goesB xs (outOf xs zs) (outOf zs xs) <;> rw [q] at h12 <;> simp [r18, d18, h7, h14, h15, h14', h15', l1, l2, bTuple, itemsM, closed, closeds, c1, c2, h12, truth]
def numD (zs : List D) (d : D) : D := if d ∈ zs then .int (zs.findIdx (fun z => decide (z = d)) : Nat) else .non
theorem row_find {d : D} {zs : List D} (hd : rowB d = true) (hz : zs.all rowB = true) (h : d ∈ zs) : (zs.findIdx? fun z => eqv z d) = some (zs.findIdx fun z => decide (z = d)) := by
  have e : ∀ z ∈ zs, eqv z d = decide (z = d) := fun z hz' => eqv_eq z d (row_noBl (List.all_eq_true.mp hz z hz')) (row_noBl hd)
  clear hz
  induction zs with
  | nil => simp at h
  | cons z r ih =>
    rw [List.findIdx?_cons, List.findIdx_cons, e z (by simp)]
    by_cases c : z = d
    · simp [c]
    · have h' : d ∈ r := by
        rcases List.mem_cons.mp h with rfl | h
        · exact absurd rfl c
        · exact h
      simp [c, ih h' fun y hy => e y (by simp [hy])]
theorem s19 (n : Nat) (xs a b : List D) (m : Mem) (hx : xs.all rowB = true) (hlx : xs.length ≤ 100) (ha : a.all rowB = true) (hb : b.all rowB = true) (hlb : b.length ≤ 100) : run ds (n + 2) 19 [tab xs, chg a b] m = .ok (.tup (xs.map (numD (chgBy xs a b)))) m := by
  have z := sizeLine_is
  have hz := chgBy_rows (a := a) hx hb
  have h15 := fun m => s15 n xs a b m hx (by omega) ha hb (by omega)
  generalize hzs : chgBy xs a b = zs at *
  have l1 := fun ρ3 => xLc_map (fe := run ds (n + 1)) (ρ := [some (tab xs), some (chg a b), some (.tup zs), ρ3]) (m := m) (m1 := m) (it := iAny (xBin opIx (xVar 0) (xLit (.int 1)))) (p := .nm 3) (own := [3])
    (e := xGc (xIf (tB (xBin opIn (xVar 3) (xVar 2))) (xMeth [("list", fIndexL), ("tuple", fIndexT)] (xVar 2) (aCons (xVar 3) (aNil))) (xLit .non))) (numD zs) (xs := xs) (w := []) (by simp [opIx, tab]) rfl (by omega) fun x hx' => by
      refine ⟨_, rfl, ?_⟩
      have hr := List.all_eq_true.mp hx x hx'
      by_cases c : x ∈ zs
      · simp [wipeE, opIn, row_in hr hz, c, tyD, List.lookup, fIndexT, row_pure (k := 10) hr, rows_pure (k := 9) hz, row_find hr hz c, numD]
      · simp [wipeE, opIn, row_in hr hz, c, numD]
  have hcl : ∀ k, closeds k (xs.map (numD zs)) = true := fun k => by
    rw [closeds_all, List.all_map]
    exact List.all_eq_true.mpr fun d _ => by
      simp only [Function.comp_apply, numD]
      split <;> rfl
  simp [r19, d19, h15, opIx, l1, bTuple, itemsM, closed, hcl]
end K60
end Mn
set_option Elab.async false
set_option linter.all false
set_option maxRecDepth 100000
set_option maxHeartbeats 1000000
namespace Mn
namespace K60
open PySem
theorem s20 (n : Nat) (xs a b : List D) (m : Mem) (hx : xs.all rowB = true) (hlx : xs.length ≤ 100) (ht : tabB xs = true) (hg : goesB xs a b = true) (hla : a.length ≤ 100) (hlb : b.length ≤ 100) : run ds (n + 7) 20 [tab xs, chg a b] m = .ok (.tup (xs.map (numD (chgBy xs a b)))) m := by
  have z := sizeLine_is
  obtain ⟨ha, hb⟩ := goes_rows hg
  have h7 := fun m => s7 (n + 2) xs m (rows_known hx) (by omega)
  simp only [ht, if_true] at h7
  have h14 := fun m => s14 n xs a b m hx (by omega) (rows_known ha) (rows_known hb) (by omega) (by omega)
  simp only [hg, if_true] at h14
  have h19 := fun m => s19 (n + 4) xs a b m hx (by omega) ha hb (by omega)
  simp [r20, d20, h7, h14, h19]
abbrev bag (a b c : Int) : O := .lst [.int a, .int b, .int c]
theorem ixN_0 {k : Nat} : L2.ixN (k + 1) 0 = some 0 := by simp [L2.ixN]
theorem ixN_1 {k : Nat} : L2.ixN (k + 2) 1 = some 1 := by
  have : ¬ ((k : Int) + 2 ≤ 1) := by omega
  simp [L2.ixN]; omega
theorem s24 (n : Nat) (l : Nat) (a b c many : Int) (m : Mem) (hm : m[l]? = some (bag a b c)) (h1 : 0 < many) (h2 : many < 1000000) :
    ∃ r a' b', 0 ≤ r ∧ r < many ∧ run ds (n + 1) 24 [.loc l, .int many] m = .ok (.int r) (m.set l (bag a' b' c)) := by
  have hl : l < m.length := (List.getElem?_eq_some_iff.mp hm).1
  have hm2 : m[l] = bag a b c := by rw [List.getElem?_eq_getElem hl] at hm; exact Option.some.inj hm
  have hm0 : many ≠ 0 := by omega
  have hn : many.natAbs < 1073741824 := by omega
  have fm : ∀ x : Int, 0 ≤ x.fmod many ∧ x.fmod many < many := fun x => ⟨Int.fmod_nonneg_of_pos x h1, Int.fmod_lt_of_pos x h1⟩
  by_cases q : a = 0
  · subst q
    generalize hsd : Int.fmod (b * 48271 + c * 69621 + 11) 2147483647 = sd
    have b1 : 0 ≤ sd ∧ sd < 2147483647 := by
      rw [← hsd]
      exact ⟨Int.fmod_nonneg_of_pos _ (by decide), Int.fmod_lt_of_pos _ (by decide)⟩
    have b2 : -18446744073709551616 < sd ∧ sd < 18446744073709551616 := by omega
    refine ⟨(sd * 2147483629 + (sd * sd + c * 16807).fmod 2147483629).fmod many, (sd * 2147483629 + (sd * sd + c * 16807).fmod 2147483629).fdiv many, sd, (fm _).1, (fm _).2, ?_⟩
    simp [r24, d24, opIx, hm2, opEq, eqM, pureD, eqv, opMul, bInt, opAdd, opMod, hsd, b2, sSub, setD, L2.ixN, hl, opFdiv, hm0, hn, gcO_len]
  · refine ⟨a.fmod many, a.fdiv many, b, (fm _).1, (fm _).2, ?_⟩
    simp [r24, d24, opIx, hm2, opEq, eqM, pureD, eqv, q, bInt, opMod, sSub, setD, L2.ixN, hl, opFdiv, hm0, hn, gcO_len]
theorem s25 (n : Nat) (l q : Nat) (a b c : Int) (xs : List D) (m : Mem) (hm : m[l]? = some (bag a b c)) (hq : m[q]? = some (.lst xs)) (hne : q ≠ l) (h0 : xs ≠ []) (hl : xs.length ≤ 1000) :
    ∃ x a' b', x ∈ xs ∧ run ds (n + 2) 25 [.loc l, .loc q] m = .ok x (m.set l (bag a' b' c)) := by
  have hp : 0 < xs.length := List.length_pos_iff.mpr h0
  obtain ⟨r, a', b', h1, h2, h3⟩ := s24 n l a b c (xs.length : Int) m hm (by omega) (by omega)
  have hr : r.toNat < xs.length := by omega
  have hat : L2.atI xs r = some xs[r.toNat] := by
    have := atI_nat xs r.toNat
    rw [Int.toNat_of_nonneg h1] at this
    rw [this, List.getElem?_eq_getElem hr]
  have hq' : (m.set l (bag a' b' c))[q]? = some (.lst xs) := by rw [List.getElem?_set_ne (Ne.symm hne)]; exact hq
  refine ⟨xs[r.toNat], a', b', List.getElem_mem hr, ?_⟩
  simp [r25, d25, bLen, hq, h3, opIx, hq', hat, gcO_len]
end K60
end Mn
set_option Elab.async false
set_option linter.all false
set_option maxRecDepth 100000
set_option maxHeartbeats 1000000
namespace Mn
namespace K60
open PySem
/-- nothing in the store leads out of it -/
def ClM (m : Mem) : Prop := ∀ o ∈ m, closedO m.length o = true
theorem bag_closed {k : Nat} {a b c : Int} : closedO k (bag a b c) = true := by simp [closedO, closeds, closed]
theorem ClM.set {m : Mem} (h : ClM m) (l : Nat) (a b c : Int) : ClM (m.set l (bag a b c)) := by
  intro o ho
  rw [List.length_set]
  rcases List.mem_or_eq_of_mem_set ho with ho | rfl
  · exact h o ho
  · exact bag_closed
theorem gc_set {m : Mem} {l : Nat} {a b c : Int} {r : D} (h : ClM m) (x : Mem) (hr : closed m.length r = true) : gcO m (.ok r (m.set l (bag a b c) ++ x)) = .ok r (m.set l (bag a b c)) := by
  have e : (m.set l (bag a b c) ++ x).take m.length = m.set l (bag a b c) := by
    have := take_app (m.set l (bag a b c)) x
    rwa [List.length_set] at this
  have hc : cutOk m (m.set l (bag a b c) ++ x) = true := by
    simp only [cutOk, Bool.or_eq_true, Bool.and_eq_true, decide_eq_true_eq, e, List.all_eq_true]
    refine .inr ⟨by simp, fun o ho => ?_⟩
    have := h.set l a b c o ho
    rwa [List.length_set] at this
  simp only [gcO, hc, hr, e]
  simp
theorem gcB_set {m : Mem} {l : Nat} {a b c : Int} {k : Bool} (h : ClM m) (x : Mem) : gcB m (.ok k (m.set l (bag a b c) ++ x)) = .ok k (m.set l (bag a b c)) := by
  have e : (m.set l (bag a b c) ++ x).take m.length = m.set l (bag a b c) := by
    have := take_app (m.set l (bag a b c)) x
    rwa [List.length_set] at this
  have hc : cutOk m (m.set l (bag a b c) ++ x) = true := by
    simp only [cutOk, Bool.or_eq_true, Bool.and_eq_true, decide_eq_true_eq, e, List.all_eq_true]
    refine .inr ⟨by simp, fun o ho => ?_⟩
    have := h.set l a b c o ho
    rwa [List.length_set] at this
  simp only [gcB, hc, e]
  simp
/-- a call of _law_one with a list of letters written out -/
theorem one_of (n : Nat) (l : Nat) (a b c : Int) (xs : List D) (m : Mem) (hm : m[l]? = some (bag a b c)) (hcl : ClM m) (h0 : xs ≠ []) (hl : xs.length ≤ 1000) (hx : ∀ x ∈ xs, ∃ z, x = .str z) :
    ∃ z a' b', D.str z ∈ xs ∧ gcO m (run ds (n + 2) 25 [.loc l, .loc m.length] (m ++ [.lst xs])) = .ok (.str z) (m.set l (bag a' b' c)) := by
  have hlt : l < m.length := (List.getElem?_eq_some_iff.mp hm).1
  obtain ⟨x, a', b', h1, h2⟩ := s25 n l m.length a b c xs (m ++ [.lst xs]) (by rw [List.getElem?_append_left hlt]; exact hm) (by simp) (by omega) h0 hl
  obtain ⟨z, rfl⟩ := hx x h1
  refine ⟨z, a', b', h1, ?_⟩
  rw [h2, List.set_append_left _ _ hlt]
  exact gc_set hcl _ rfl
theorem s31 (n : Nat) (xs a b : List D) (m : Mem) (hx : xs.all rowB = true) (hlx : xs.length ≤ 1000) (ha : a.all rowB = true) (hb : b.all rowB = true) (hlb : b.length ≤ 1000) : run ds (n + 1) 31 [tab xs, chg a b] m = .ok (tab (chgBy xs a b)) m := by
  have z := sizeLine_is
  have hlc := fun ρ0 => xLc_pure (fe := run ds n) (ρ := [some (tab xs), some (chg a b), ρ0]) (m := m) (m1 := m) (it := iAny (xBin opIx (xVar 0) (xLit (.int 1)))) (p := .nm 2) (own := [2]) (t := tGc (tB (xBin opNotIn (xVar 2) (xBin opIx (xVar 1) (xLit (.int 1)))))) (e := xGc (xVar 2)) (fun d => decide (d ∉ a)) id (xs := xs) (w := [])
    (by simp [opIx, tab]) rfl (by omega) fun x hx' => by
      refine ⟨_, rfl, ?_, fun _ => ?_⟩
      · simp [wipeE, opNotIn, opIx, row_in (List.all_eq_true.mp hx x hx') ha]
      · simp [wipeE]
  have hxb : (xs.filter (fun d => decide (d ∉ a)) ++ b).all rowB = true := by
    rw [List.all_append, Bool.and_eq_true]
    exact ⟨List.all_eq_true.mpr fun d hd => List.all_eq_true.mp hx d (List.mem_filter.mp hd).1, hb⟩
  have hl : (xs.filter (fun d => decide (d ∉ a))).length + b.length ≤ sizeLine := by
    have := List.length_filter_le (fun d => decide (d ∉ a)) xs
    omega
  have hs := rows_sortable hxb
  have hc := fun k => rows_closed (k := k) (chgBy_rows (a := a) hx hb)
  simp only [List.map_id] at hlc
  generalize hy : xs.filter (fun d => decide (d ∉ a)) = ys at *
  have e : chgBy xs a b = sortD (ys ++ b) := by rw [← hy]; rfl
  rw [e] at hc ⊢
  simp [r31, d31, hlc, opIx, opAdd, hl, bSorted, seqD, hs, bTuple, itemsM, closed, closeds, hc]
end K60
end Mn
set_option Elab.async false
set_option linter.all false
set_option maxRecDepth 100000
set_option maxHeartbeats 1000000
namespace Mn
namespace K60
open PySem
theorem set_app_len {m t : Mem} {l : Nat} {o : O} (h : l < m.length) : (m ++ t).set l o = m.set l o ++ t := List.set_append_left _ _ h
theorem set_self {m : Mem} {l : Nat} {o : O} (h : m[l]? = some o) : m.set l o = m := by
  obtain ⟨hl, e⟩ := List.getElem?_eq_some_iff.mp h
  rw [← e]
  exact List.set_getElem_self hl
/-- tuple([_law_one(bag, values) for j in range(k)]) -/
theorem vals_of (n l q j k : Nat) (a b c : Int) (vs : List D) (m m1 : Mem) (ρ : Env) (it : DenI) (hit : it (run ds (n + 2)) ρ m = .ok ⟨rangeD 0 k, [], none⟩ m1) (hk : k ≤ 1000) (hm : m1[l]? = some (bag a b c)) (hq : m1[q]? = some (.lst vs)) (hne : q ≠ l) (h0 : vs ≠ []) (hl : vs.length ≤ 1000)
    (hj : 2 ≤ j) (hr0 : ρ[0]? = some (some (.loc l))) (hr1 : ρ[1]? = some (some (.loc q))) :
    ∃ ws a' b', (∀ x ∈ ws, x ∈ vs) ∧ ws.length = k ∧ xCallF bTuple (aCons (xLc it (.nm j) tYesD (xGc (xCall 25 (aCons (xVar 0) (aCons (xVar 1) aNil)))) [j]) aNil) (run ds (n + 2)) ρ m = .ok (.tup ws) (m1.set l (bag a' b' c) ++ [.lst ws]) := by
  have hlen : (rangeD 0 k).length = k := by simp [rangeD]
  have z := sizeLine_is
  obtain ⟨acc, m', h1, ⟨a', b', rfl, hv⟩, h3⟩ := xLc_inv (fe := run ds (n + 2)) (ρ := ρ) (m := m) (m1 := m1) (it := it) (p := .nm j) (own := [j]) (w := []) (xs := rangeD 0 k) (e := xGc (xCall 25 (aCons (xVar 0) (aCons (xVar 1) aNil))))
    (fun acc mm => ∃ a' b', mm = m1.set l (bag a' b' c) ∧ ∀ x ∈ acc, x ∈ vs) hit ⟨a, b, (set_self hm).symm, by simp⟩ (by rw [hlen]; omega) (fun _ _ _ => rfl) (fun x hx acc mm ⟨a', b', hmm, hv⟩ => by
      subst hmm
      have hlt : l < m1.length := (List.getElem?_eq_some_iff.mp hm).1
      obtain ⟨y, a2, b2, g1, g2⟩ := s25 n l q a' b' c vs (m1.set l (bag a' b' c)) (by simp [hlt]) (by rw [List.getElem?_set_ne (Ne.symm hne)]; exact hq) hne h0 hl
      refine ⟨_, y, m1.set l (bag a2 b2 c), rfl, ?_, a2, b2, rfl, fun x hx => ?_⟩
      · have e0 : (((wipeE ρ [j]).set j (some x)))[0]? = some (some (.loc l)) := by
          simp only [wipeE]
          rw [List.getElem?_set_ne (by omega), List.getElem?_set_ne (by omega)]; exact hr0
        have e1 : (((wipeE ρ [j]).set j (some x)))[1]? = some (some (.loc q)) := by
          simp only [wipeE]
          rw [List.getElem?_set_ne (by omega), List.getElem?_set_ne (by omega)]; exact hr1
        simp only [xGc_ev, xCall_ev, aCons_ev, aNil_ev, xVar_ev, e0, e1, Out.bind_ok, g2, List.set_set]
        exact gcO_len (by simp)
      · rcases List.mem_append.mp hx with hx | hx
        · exact hv x hx
        · rw [List.mem_singleton.mp hx]; exact g1)
  refine ⟨acc, a', b', hv, by rw [h3, hlen], ?_⟩
  have e := bTuple_end (m := m1.set l (bag a' b' c)) (xs := acc)
  rw [List.length_set] at e
  simp [h1, e]
end K60
end Mn
set_option Elab.async false
set_option linter.all false
set_option maxRecDepth 100000
set_option maxHeartbeats 1000000
namespace Mn
namespace K60
open PySem
def nms : List D := [.str "e", .str "e", .str "f", .str "p", .str "t", .str "g"]
def wd (z : Str) : Nat := if z = "e" then 2 else if z = "f" then 2 else if z = "p" then 1 else if z = "t" then 3 else 1
abbrev wdD : Den := xDict [(xLit (.str "e"), xLit (.int 2)), (xLit (.str "f"), xLit (.int 2)), (xLit (.str "p"), xLit (.int 1)), (xLit (.str "t"), xLit (.int 3)), (xLit (.str "g"), xLit (.int 1))]
def wkv : List (D × D) := [(.str "e", .int 2), (.str "f", .int 2), (.str "p", .int 1), (.str "t", .int 3), (.str "g", .int 1)]
theorem wdD_ev (fe : FE) (ρ : Env) (m : Mem) : wdD fe ρ m = .ok (.loc m.length) (m ++ [.dict wkv false]) := by
  have e : dictP [] wkv = some wkv := by decide +kernel
  unfold wkv at e ⊢
  simp only [wdD, xDict, kvD, xLit_ev, Out.bind_ok]
  rw [e]
theorem wget {z : Str} (h : D.str z ∈ nms) : dGet wkv (.str z) = some (.int (wd z)) := by
  simp only [nms, List.mem_cons, D.str.injEq, List.not_mem_nil, or_false] at h
  rcases h with rfl | rfl | rfl | rfl | rfl | rfl <;> decide +kernel
theorem wkv_kind (z : Str) : kindOk wkv (.str z) = true := by
  have : (wkv.all fun p => (keyM p.1).isSome) = true := by decide +kernel
  unfold kindOk
  rw [this]
  simp [keyM]
theorem wd_le (z : Str) : wd z ≤ 3 := by
  unfold wd
  repeat' split
  all_goals omega
theorem iRange1_if {dA : DenA} {fe : FE} {ρ : Env} {m m1 : Mem} {j : Int} (h : dA fe ρ m = .ok [.int j] m1) : iRange1 dA fe ρ m = if -(2 ^ 62) ≤ j ∧ j < 2 ^ 62 then .ok ⟨rangeD 0 j.toNat, [], none⟩ m1 else .bad := by
  unfold iRange1
  rw [h, Out.bind_ok]
theorem irange1_ev {dA : DenA} {fe : FE} {ρ : Env} {m m1 : Mem} {k : Nat} (hk : k ≤ 1000) (h : dA fe ρ m = .ok [.int k] m1) : iRange1 dA fe ρ m = .ok ⟨rangeD 0 k, [], none⟩ m1 := by
  have e : -(2 ^ 62) ≤ (k : Int) ∧ (k : Int) < 2 ^ 62 := by omega
  rw [iRange1_if h, if_pos e, Int.toNat_natCast]
/-- a row as the law makes it -/
def madeB (vs : List D) (r : D) : Prop := ∃ z ws, r = .tup [.str z, .tup ws] ∧ D.str z ∈ nms ∧ ws.length = wd z ∧ ∀ x ∈ ws, x ∈ vs
theorem vs_closed {k : Nat} {ws vs : List D} (hv : vs.all isStr = true) (h : ∀ x ∈ ws, x ∈ vs) : closeds k ws = true := str_closed (List.all_eq_true.mpr fun x hx => List.all_eq_true.mp hv x (h x hx))
theorem s29 (n l q : Nat) (a b c : Int) (vs : List D) (m : Mem) (hm : m[l]? = some (bag a b c)) (hq : m[q]? = some (.lst vs)) (hne : q ≠ l) (hcl : ClM m) (h0 : vs ≠ []) (hl : vs.length ≤ 1000) (hv : vs.all isStr = true) :
    ∃ r a' b', madeB vs r ∧ run ds (n + 3) 29 [.loc l, .loc q] m = .ok r (m.set l (bag a' b' c)) := by
  have hlt : l < m.length := (List.getElem?_eq_some_iff.mp hm).1
  have hqt : q < m.length := (List.getElem?_eq_some_iff.mp hq).1
  obtain ⟨z, a1, b1, hz, h1⟩ := one_of n l a b c nms m hm hcl (by decide) (by decide) (by
    intro x hx
    simp only [nms, List.mem_cons, List.not_mem_nil, or_false] at hx
    rcases hx with rfl | rfl | rfl | rfl | rfl | rfl <;> exact ⟨_, rfl⟩)
  have hw := wd_le z
  have hcl1 := hcl.set l a1 b1 c
  have hm1 : (m.set l (bag a1 b1 c))[l]? = some (bag a1 b1 c) := by simp [hlt]
  have hq1 : (m.set l (bag a1 b1 c))[q]? = some (.lst vs) := by rw [List.getElem?_set_ne (Ne.symm hne)]; exact hq
  have hL : (m.set l (bag a1 b1 c)).length = m.length := by simp
  generalize hM : m.set l (bag a1 b1 c) = M at *
  obtain ⟨ws, a2, b2, hws, hwl, h2⟩ := vals_of n l q 3 (wd z) a1 b1 c vs M (M ++ [.dict wkv false]) [some (.loc l), some (.loc q), some (.str z), none] (iRange1 (aCons (xBin opIx wdD (xVar 2)) aNil))
    (irange1_ev (by omega) (by simp only [aCons_ev, xBin_ev, wdD_ev, xVar_ev, List.getElem?_cons_succ, List.getElem?_cons_zero, Out.bind_ok, opIx, get_end, wkv_kind, if_true, wget hz, Option.map_some, Out.ofO_some, aNil_ev])) (by omega)
    (by rw [List.getElem?_append_left (by omega)]; exact hm1) (by rw [List.getElem?_append_left (by omega)]; exact hq1) hne h0 hl (by omega) rfl rfl
  refine ⟨.tup [.str z, .tup ws], a2, b2, ⟨z, ws, rfl, hz, hwl, hws⟩, ?_⟩
  rw [set_app_len (by omega)] at h2
  have hc : ∀ k, closeds k ws = true := fun k => vs_closed hv hws
  have e1 : gcO M (.ok (.tup [.str z, .tup ws]) ((M.set l (bag a2 b2 c) ++ [.dict wkv false]) ++ [.lst ws])) = .ok (.tup [.str z, .tup ws]) (M.set l (bag a2 b2 c)) := by
    rw [List.append_assoc]
    exact gc_set hcl1 _ (by simp [closed, closeds, hc])
  have e2 : ∀ x, M.set l x = m.set l x := fun x => by rw [← hM, List.set_set]
  have e3 : gcO m (.ok (.tup [.str z, .tup ws]) (m.set l (bag a2 b2 c))) = .ok (.tup [.str z, .tup ws]) (m.set l (bag a2 b2 c)) := gcO_len (by simp)
  simp only [nms] at h1
  simp only [wdD] at h2
  rw [e2] at e1 h2
  simp only [List.append_assoc, List.singleton_append] at e1 h2
  simp [r29, d29, -xCallF_ev, h1, h2, e1, e3]
end K60
end Mn
set_option Elab.async false
set_option linter.all false
set_option maxRecDepth 100000
set_option maxHeartbeats 1000000
namespace Mn
namespace K60
open PySem
theorem s23 (n : Nat) (ns : List Int) (k : Nat) (hk : k ≤ 63) (m : Mem) : ∃ a b c, run ds (n + 1) 23 [.seq (ns.map D.int), .int k] m = .ok (.loc m.length) (m ++ [bag a b c]) := by
  by_cases h : k < ns.length
  · have e : L2.atI (ns.map D.int) (k : Int) = some (.int ns[k]) := by rw [atI_nat, List.getElem?_map, List.getElem?_eq_getElem h]; rfl
    have h' : (k : Int) < ns.length := by omega
    by_cases c : (1000000000000000000 : Int) ≤ ns[k]
    · refine ⟨ns[k], ns[k], k, ?_⟩
      simp [r23, d23, opLt, bLen, h', opIx, e, bInt, opGe, opPow, c, gcO, closed]
    · refine ⟨0, ns[k], k, ?_⟩
      simp [r23, d23, opLt, bLen, h', opIx, e, bInt, opGe, opPow, c, gcO, closed]
  · have h' : ¬ (k : Int) < ns.length := by omega
    refine ⟨0, 0, k, ?_⟩
    simp [r23, d23, opLt, bLen, h', opGe, opPow, gcO, closed]
def vss : List (List D) := [[.str "a", .str "b"], [.str "a", .str "b", .str "c"], [.str "1", .str "2", .str "3", .str "4"], [.str "x", .str "y1"]]
theorem vss_ok {vs : List D} (h : vs ∈ vss) : vs ≠ [] ∧ vs.length ≤ 4 ∧ vs.all isStr = true ∧ vs.all valB = true := by
  have : ∀ vs ∈ vss, vs ≠ [] ∧ vs.length ≤ 4 ∧ vs.all isStr = true ∧ vs.all valB = true := by
    intro vs h
    simp only [vss, List.mem_cons, List.not_mem_nil, or_false] at h
    rcases h with rfl | rfl | rfl | rfl <;> exact ⟨by simp, by decide, by decide +kernel, by decide +kernel⟩
  exact this vs h
abbrev vlists (L : Nat) : Mem := [.lst [.str "a", .str "b"], .lst [.str "a", .str "b", .str "c"], .lst [.str "1", .str "2", .str "3", .str "4"], .lst [.str "x", .str "y1"], .lst [.loc L, .loc (L + 1), .loc (L + 2), .loc (L + 3)]]
theorem s26 (n l : Nat) (a b c : Int) (m : Mem) (hm : m[l]? = some (bag a b c)) : ∃ i vs a' b', i < 4 ∧ vss[i]? = some vs ∧ run ds (n + 3) 26 [.loc l] m = .ok (.loc (m.length + i)) (m.set l (bag a' b' c) ++ vlists m.length) := by
  have hlt : l < m.length := (List.getElem?_eq_some_iff.mp hm).1
  obtain ⟨x, a', b', h1, h2⟩ := s25 n l (m.length + 4) a b c [.loc m.length, .loc (m.length + 1), .loc (m.length + 2), .loc (m.length + 3)] (m ++ vlists m.length) (by rw [List.getElem?_append_left hlt]; exact hm) (by simp) (by omega) (by simp) (by simp)
  rw [set_app_len hlt] at h2
  have : ∃ i vs, i < 4 ∧ vss[i]? = some vs ∧ x = .loc (m.length + i) := by
    simp only [List.mem_cons, List.not_mem_nil, or_false] at h1
    rcases h1 with rfl | rfl | rfl | rfl
    · exact ⟨0, _, by omega, rfl, rfl⟩
    · exact ⟨1, _, by omega, rfl, rfl⟩
    · exact ⟨2, _, by omega, rfl, rfl⟩
    · exact ⟨3, _, by omega, rfl, rfl⟩
  obtain ⟨i, vs, hi, hvs, rfl⟩ := this
  refine ⟨i, vs, a', b', hi, hvs, ?_⟩
  have hg : ∀ mm, gcO m (.ok (.loc (m.length + i)) mm) = .ok (.loc (m.length + i)) mm := fun mm => by
    simp [gcO, closed]
    omega
  simp only [vlists] at h2 ⊢
  simp [r26, d26, h2, hg]
end K60
end Mn
set_option Elab.async false
set_option linter.all false
set_option maxRecDepth 100000
set_option maxHeartbeats 1000000
namespace Mn
namespace K60
open PySem
theorem row_lay {d : D} (h : rowB d = true) : (toPy d).canLay0 = true := (rd_ok (m := []) 12 _ _ (pure_rd 12 d (row_pure (k := 10) h))).1
theorem row_eqv {a b : D} (ha : rowB a = true) (hb : rowB b = true) (h : PyData.eqv (toPy a) (toPy b) = true) : a = b := by
  have e := eqv_py 12 12 a b (row_pure (k := 10) ha) (row_pure (k := 10) hb)
  rw [← e, eqv_eq a b (row_noBl ha) (row_noBl hb)] at h
  exact of_decide_eq_true h
/-- distinct rows, sorted: strictly ascending -/
theorem sort_asc {xs : List D} (h : xs.all rowB = true) (nd : xs.Nodup) : (sortD xs).Pairwise fun a b => ltD a b = true := by
  have h1 := sort_pairwise xs
  have h2 : (sortD xs).Nodup := (sort_perm xs).nodup_iff.mpr nd
  have h3 : (sortD xs).Pairwise fun a b => ltD b a = false ∧ a ≠ b := h1.and h2
  refine List.Pairwise.imp_of_mem (fun {a b} ha hb q => ?_) h3
  have ra := List.all_eq_true.mp h a (sort_mem.mp ha)
  have rb := List.all_eq_true.mp h b (sort_mem.mp hb)
  cases c : ltD a b with
  | true => rfl
  | false => exact absurd (row_eqv ra rb (ltD_total (row_lay ra) (row_comp ra rb) c q.1)) q.2
end K60
end Mn
namespace Mn
namespace K60
open PySem
/-- the row is as wide as its name tells -/
def widthB (wf : Str → Nat) : D → Bool
  | .tup [.str z, .tup ws] => decide (ws.length = wf z)
  | _ => false
theorem fitGo_ok (wf : Str → Nat) : ∀ (xs : List D) (kvs : List (D × D)), (∀ z v, dGet kvs (.str z) = some v → v = .int (wf z)) → xs.all (widthB wf) = true → fitGo kvs xs = true
  | [], _, _, _ => rfl
  | x :: xs, kvs, hk, h => by
    simp only [List.all_cons, Bool.and_eq_true] at h
    obtain ⟨hx, h⟩ := h
    unfold widthB at hx
    split at hx
    · rename_i z ws
      have hw : ws.length = wf z := of_decide_eq_true hx
      cases e : dGet kvs (.str z) with
      | some v => simp [fitGo, e, hk z v e, hw, fitGo_ok wf xs kvs hk h]
      | none =>
        simp only [fitGo, e]
        refine fitGo_ok wf xs _ (fun z' v' e' => ?_) h
        rw [dPut_none e] at e'
        unfold dGet at e'
        rw [List.find?_append] at e'
        cases q : kvs.find? (fun p => decide (p.1 = .str z')) with
        | some p =>
          rw [q] at e'
          exact hk z' v' (by unfold dGet; rw [q]; simpa using e')
        | none =>
          rw [q] at e'
          by_cases c : z = z'
          · subst c
            simp at e'
            rw [← e', hw]
          · simp [c] at e'
    · cases hx
theorem fit_ok (wf : Str → Nat) {xs : List D} (h : xs.all (widthB wf) = true) : fitB xs = true := fitGo_ok wf xs [] (fun z v e => by simp [dGet] at e) h
end K60
end Mn
namespace Mn
namespace K60
open PySem
theorem tab_ok (wf : Str → Nat) {xs : List D} (h : xs.all rowB = true) (hw : xs.all (widthB wf) = true) (nd : xs.Nodup) (hl : xs.length ≤ 40) : tabB (sortD xs) = true := by
  simp only [tabB, Bool.and_eq_true, decide_eq_true_eq]
  exact ⟨⟨⟨by rw [sort_len]; exact hl, sort_all h⟩, pairwise_ascD (sort_asc h nd)⟩, fit_ok wf (sort_all hw)⟩
theorem asc_nodup {xs : List D} (h : xs.Pairwise fun a b => ltD a b = true) : xs.Nodup := h.imp fun {a b} h e => by
  subst e
  rw [ltD_irrefl] at h
  cases h
/-- sorted, of the same members: the same -/
theorem sort_same {xs ys : List D} (h : xs.all rowB = true) (nd : xs.Nodup) (hy : ys.Pairwise fun a b => ltD a b = true) (e : ∀ d, d ∈ xs ↔ d ∈ ys) : sortD xs = ys := asc_unique (sort_asc h nd) hy fun d => sort_mem.trans (e d)
end K60
end Mn
set_option Elab.async false
set_option linter.all false
set_option maxRecDepth 100000
set_option maxHeartbeats 1000000
namespace Mn
namespace K60
open PySem
theorem dPut_keys {kvs : List (D × D)} {k v : D} : (dPut kvs k v).map (·.1) = if k ∈ kvs.map (·.1) then kvs.map (·.1) else kvs.map (·.1) ++ [k] := by
  have hg : (dGet kvs k).isSome = decide (k ∈ kvs.map (·.1)) := by
    unfold dGet
    rw [Option.isSome_map, Bool.eq_iff_iff, List.find?_isSome]
    simp
  unfold dPut
  rw [hg]
  by_cases c : k ∈ kvs.map (·.1)
  · simp only [c, decide_true, if_true, List.map_map]
    refine List.map_congr_left fun p hp => ?_
    simp only [Function.comp_apply]
    split <;> simp_all
  · simp [c]
theorem dPut_nodup {kvs : List (D × D)} {k v : D} (h : (kvs.map (·.1)).Nodup) : ((dPut kvs k v).map (·.1)).Nodup := by
  rw [dPut_keys]
  split
  · exact h
  · rename_i c
    exact List.nodup_append.mpr ⟨h, by simp, fun a ha b hb => by
      rw [List.mem_singleton.mp hb]
      intro e
      exact c (e ▸ ha)⟩
end K60
end Mn
namespace Mn
namespace K60
open PySem
def wkv4 : List (D × D) := [(.str "e", .int 2), (.str "f", .int 2), (.str "p", .int 1), (.str "t", .int 3)]
theorem s27 (n : Nat) (m : Mem) : run ds (n + 1) 27 [] m = .ok (.loc m.length) (m ++ [.dict wkv4 false]) := by
  have e : dictP [] wkv4 = some wkv4 := by decide +kernel
  have ev : ∀ fe ρ, xDict [(xLit (.str "e"), xLit (.int 2)), (xLit (.str "f"), xLit (.int 2)), (xLit (.str "p"), xLit (.int 1)), (xLit (.str "t"), xLit (.int 3))] fe ρ m = .ok (.loc m.length) (m ++ [.dict wkv4 false]) := fun fe ρ => by
    unfold wkv4 at e ⊢
    simp only [xDict, kvD, xLit_ev, Out.bind_ok]
    rw [e]
  simp [r27, d27, ev, gcO, closed]
def nms4 : List D := [.str "e", .str "e", .str "e", .str "f", .str "p", .str "t"]
theorem wget4 {z : Str} (h : D.str z ∈ nms4) : dGet wkv4 (.str z) = some (.int (wd z)) ∧ D.str z ∈ nms := by
  simp only [nms4, List.mem_cons, D.str.injEq, List.not_mem_nil, or_false] at h
  rcases h with rfl | rfl | rfl | rfl | rfl | rfl <;> exact ⟨by decide +kernel, by decide +kernel⟩
theorem wkv4_kind (z : Str) : kindOk wkv4 (.str z) = true := by
  have : (wkv4.all fun p => (keyM p.1).isSome) = true := by decide +kernel
  unfold kindOk
  rw [this]
  simp [keyM]
end K60
end Mn
set_option Elab.async false
set_option linter.all false
set_option maxRecDepth 100000
set_option maxHeartbeats 1000000
namespace Mn
namespace K60
open PySem
/-- a made row is a row, as wide as its name tells -/
theorem made_row {vs : List D} {r : D} (hv : vs.all valB = true) (h : madeB vs r) : rowB r = true ∧ widthB wd r = true := by
  obtain ⟨z, ws, rfl, hz, hl, hw⟩ := h
  have hn : nameB (.str z) = true := by
    simp only [nms, List.mem_cons, D.str.injEq, List.not_mem_nil, or_false] at hz
    rcases hz with rfl | rfl | rfl | rfl | rfl | rfl <;> decide +kernel
  have h3 := wd_le z
  have h1 : 1 ≤ wd z := by
    unfold wd
    repeat' split
    all_goals omega
  refine ⟨?_, by simp [widthB, hl]⟩
  simp only [rowB, hn, Bool.true_and, Bool.and_eq_true, decide_eq_true_eq]
  exact ⟨⟨by omega, by omega⟩, List.all_eq_true.mpr fun x hx => List.all_eq_true.mp hv x (hw x hx)⟩
end K60
end Mn
set_option Elab.async false
set_option linter.all false
set_option maxRecDepth 100000
set_option maxHeartbeats 1000000
namespace Mn
namespace K60
open PySem
theorem keyNs_str : ∀ {xs : List D}, xs.all isStr = true → ∃ ks, keyNs xs = some ks ∧ NestedKey.depthAll ks = 0
  | [], _ => ⟨[], rfl, rfl⟩
  | x :: xs, h => by
    simp only [List.all_cons, Bool.and_eq_true] at h
    cases x <;> simp only [isStr, Bool.false_eq_true, false_and] at h
    rename_i z
    obtain ⟨ks, h1, h2⟩ := keyNs_str h.2
    exact ⟨.text z :: ks, by simp [keyNs, keyN, h1], by simp [NestedKey.depthAll, NestedKey.depth, h2]⟩
theorem row_keyT {d : D} (h : rowB d = true) : (keyT d).isSome = true := by
  obtain ⟨z, vs, rfl, _, _, _, _, _, h2⟩ := row_shape h
  obtain ⟨ks, h3, h4⟩ := keyNs_str h2
  simp [keyT, keyN, keyNs, h3, NestedKey.depth, NestedKey.depthAll, h4]
end K60
end Mn
set_option Elab.async false
set_option linter.all false
set_option maxRecDepth 100000
set_option maxHeartbeats 1000000
namespace Mn
namespace K60
open PySem
theorem rows_kind {kvs : List (D × D)} {r : D} (hr : rowB r = true) (h : ∀ p ∈ kvs, rowB p.1 = true) : kindOk kvs r = true := by
  have e : (kvs.all fun p => (keyT p.1).isSome) = true := List.all_eq_true.mpr fun p hp => row_keyT (h p hp)
  unfold kindOk
  rw [e, row_keyT hr]
  simp
end K60
end Mn
set_option Elab.async false
set_option linter.all false
set_option maxRecDepth 100000
set_option maxHeartbeats 1000000
namespace Mn
namespace K60
open PySem
def b28b : DenS := sSeq (sSet 5 (xGc (xCall 25 (aCons (xVar 0) (aCons (xLst (aCons (xLit (.str "e")) (aCons (xLit (.str "e")) (aCons (xLit (.str "e")) (aCons (xLit (.str "f")) (aCons (xLit (.str "p")) (aCons (xLit (.str "t")) (aNil)))))))) (aNil)))))) (sSub (xVar 3) (xGc (xTup (aCons (xVar 5) (aCons (xCallF bTuple (aCons (xLc (iRange1 (aCons (xBin opIx (xCall 27 aNil) (xVar 5)) (aNil))) (.nm 6) (tYesD) (xGc (xCall 25 (aCons (xVar 0) (aCons (xVar 1) (aNil))))) [6]) (aNil))) (aNil))))) (xGc (xLit (.int 1))))
theorem dPut_len (kvs : List (D × D)) (k v : D) : (dPut kvs k v).length ≤ kvs.length + 1 := by
  unfold dPut
  split
  · simp
  · simp
theorem turn28 (n l q L : Nat) (a b c : Int) (vs : List D) (m : Mem) (kvs : List (D × D)) (o2 o4 o5 o6 : Option D) (hm : m[l]? = some (bag a b c)) (hq : m[q]? = some (.lst vs)) (hne : q ≠ l) (hL : m[L]? = some (.dict kvs false)) (hLl : L ≠ l) (hcl : ClM m) (h0 : vs ≠ []) (hl : vs.length ≤ 1000) (hv : vs.all isStr = true) (hvv : vs.all valB = true) (hk : ∀ p ∈ kvs, rowB p.1 = true) (hkl : kvs.length ≤ 1000) :
    ∃ r a' b' o5', madeB vs r ∧ b28b (run ds (n + 3)) [some (.loc l), some (.loc q), o2, some (.loc L), o4, o5, o6] m = .next [some (.loc l), some (.loc q), o2, some (.loc L), o4, o5', o6] ((m.set l (bag a' b' c)).set L (.dict (dPut kvs r (.int 1)) false)) := by
  have z := sizeLine_is
  have hlt : l < m.length := (List.getElem?_eq_some_iff.mp hm).1
  have hqt : q < m.length := (List.getElem?_eq_some_iff.mp hq).1
  have hLt : L < m.length := (List.getElem?_eq_some_iff.mp hL).1
  obtain ⟨zn, a1, b1, hz, h1⟩ := one_of (n + 1) l a b c nms4 m hm hcl (by decide) (by decide) (by
    intro x hx
    simp only [nms4, List.mem_cons, List.not_mem_nil, or_false] at hx
    rcases hx with rfl | rfl | rfl | rfl | rfl | rfl <;> exact ⟨_, rfl⟩)
  obtain ⟨hg, hz'⟩ := wget4 hz
  have hw := wd_le zn
  have hcl1 := hcl.set l a1 b1 c
  have hm1 : (m.set l (bag a1 b1 c))[l]? = some (bag a1 b1 c) := by simp [hlt]
  have hq1 : (m.set l (bag a1 b1 c))[q]? = some (.lst vs) := by rw [List.getElem?_set_ne (Ne.symm hne)]; exact hq
  have hML : (m.set l (bag a1 b1 c)).length = m.length := by simp
  have e2 : ∀ x, (m.set l (bag a1 b1 c)).set l x = m.set l x := fun x => by rw [List.set_set]
  generalize hM : m.set l (bag a1 b1 c) = M at *
  obtain ⟨ws, a2, b2, hws, hwl, h2⟩ := vals_of (n + 1) l q 6 (wd zn) a1 b1 c vs M (M ++ [.dict wkv4 false]) [some (.loc l), some (.loc q), o2, some (.loc L), o4, some (.str zn), o6] (iRange1 (aCons (xBin opIx (xCall 27 aNil) (xVar 5)) aNil))
    (irange1_ev (by omega) (by simp only [aCons_ev, xBin_ev, xCall_ev, s27 (n + 2), xVar_ev, List.getElem?_cons_succ, List.getElem?_cons_zero, Out.bind_ok, opIx, get_end, wkv4_kind, if_true, hg, Option.map_some, Out.ofO_some, aNil_ev])) (by omega)
    (by rw [List.getElem?_append_left (by omega)]; exact hm1) (by rw [List.getElem?_append_left (by omega)]; exact hq1) hne h0 hl (by omega) rfl rfl
  have hmade : madeB vs (.tup [.str zn, .tup ws]) := ⟨zn, ws, rfl, hz', hwl, hws⟩
  refine ⟨.tup [.str zn, .tup ws], a2, b2, some (.str zn), hmade, ?_⟩
  rw [set_app_len (by omega)] at h2
  have hc : ∀ k, closeds k ws = true := fun k => vs_closed hv hws
  have e1 : gcO M (.ok (.tup [.str zn, .tup ws]) ((M.set l (bag a2 b2 c) ++ [.dict wkv4 false]) ++ [.lst ws])) = .ok (.tup [.str zn, .tup ws]) (M.set l (bag a2 b2 c)) := by
    rw [List.append_assoc]
    exact gc_set hcl1 _ (by simp [closed, closeds, hc])
  have hrow := (made_row hvv hmade).1
  have hkd := rows_kind hrow hk
  have hpl : (dPut kvs (.tup [.str zn, .tup ws]) (.int 1)).length ≤ sizeLine := by
    have := dPut_len kvs (.tup [.str zn, .tup ws]) (.int 1)
    omega
  simp only [nms4] at h1
  rw [e2] at e1 h2
  simp only [List.append_assoc, List.singleton_append] at e1 h2
  have hL2 : (m.set l (bag a2 b2 c))[L]? = some (.dict kvs false) := by rw [List.getElem?_set_ne (Ne.symm hLl)]; exact hL
  simp [b28b, sSub, -xCallF_ev, h1, h2, e1, setD, hL2, hkd, hpl]
end K60
end Mn
set_option Elab.async false
set_option linter.all false
set_option maxRecDepth 100000
set_option maxHeartbeats 1000000
namespace Mn
namespace K60
open PySem
theorem dPut_mem {kvs : List (D × D)} {k v : D} {p : D × D} (h : p ∈ dPut kvs k v) : (p = (k, v)) ∨ p ∈ kvs ∨ (∃ w, (p.1, w) ∈ kvs ∧ p = (k, v)) := by
  unfold dPut at h
  split at h
  · obtain ⟨q, hq, e⟩ := List.mem_map.mp h
    by_cases c : q.1 = k
    · rw [if_pos c] at e
      exact .inl (by rw [← e, c])
    · rw [if_neg c] at e
      exact .inr (.inl (e ▸ hq))
  · rcases List.mem_append.mp h with h | h
    · exact .inr (.inl h)
    · exact .inl (List.mem_singleton.mp h)
theorem dPut_all {kvs : List (D × D)} {k v : D} {P : D × D → Prop} (h : ∀ p ∈ kvs, P p) (h2 : P (k, v)) : ∀ p ∈ dPut kvs k v, P p := fun p hp => by
  rcases dPut_mem hp with rfl | hp | ⟨w, _, rfl⟩
  · exact h2
  · exact h p hp
  · exact h2
/-- a store with a dict of rows at its end -/
theorem ClM.app_dict {m : Mem} (h : ClM m) {kvs : List (D × D)} {lk : Bool} (hk : ∀ p ∈ kvs, rowB p.1 = true ∧ closed 0 p.2 = true) : ClM (m ++ [.dict kvs lk]) := by
  intro o ho
  rcases List.mem_append.mp ho with ho | ho
  · exact closedO_mono (by simp) o (h o ho)
  · rw [List.mem_singleton.mp ho]
    simp only [closedO, List.all_eq_true, Bool.and_eq_true]
    exact fun q hq => ⟨row_closed (hk q hq).1, closed_mono (Nat.zero_le _) _ (hk q hq).2⟩
theorem rangeD_len (k : Nat) : (rangeD 0 k).length = k := by simp [rangeD]
theorem set_app_end {m : Mem} {o o' : O} : (m ++ [o]).set m.length o' = m ++ [o'] := by simp
theorem s28 (n l q : Nat) (a b c : Int) (most : Nat) (vs : List D) (m : Mem) (hm : m[l]? = some (bag a b c)) (hq : m[q]? = some (.lst vs)) (hne : q ≠ l) (hcl : ClM m) (h0 : vs ≠ []) (hl : vs.length ≤ 1000) (hv : vs.all isStr = true) (hvv : vs.all valB = true) (hmo : most ≤ 100) :
    ∃ ks a' b', ks.Nodup ∧ (∀ r ∈ ks, madeB vs r) ∧ ks.length ≤ most ∧ run ds (n + 4) 28 [.loc l, .loc q, .int most] m = .ok (tab (sortD ks)) (m.set l (bag a' b' c)) := by
  have z := sizeLine_is
  have hlt : l < m.length := (List.getElem?_eq_some_iff.mp hm).1
  have hqt : q < m.length := (List.getElem?_eq_some_iff.mp hq).1
  obtain ⟨r, a1, b1, hr0, hr1, h24⟩ := s24 (n + 2) l a b c ((most : Int) + 1) (m ++ [.dict [] false]) (by rw [List.getElem?_append_left hlt]; exact hm) (by omega) (by omega)
  obtain ⟨k, rfl⟩ := Int.eq_ofNat_of_zero_le hr0
  rw [set_app_len hlt] at h24
  have hk : k ≤ most := by omega
  obtain ⟨ρ', m', h1, i1⟩ := sFor_inv (fe := run ds (n + 3)) (ρ := [some (.loc l), some (.loc q), some (.int most), some (.loc m.length), none, none, none]) (m := m ++ [.dict [] false]) (m1 := m.set l (bag a1 b1 c) ++ [.dict [] false]) (it := iRange1 (aCons (xCall 24 (aCons (xVar 0) (aCons (xBin opAdd (xVar 2) (xLit (.int 1))) (aNil)))) (aNil))) (p := .nm 4) (b := b28b) (w := []) (xs := rangeD 0 k)
    (fun rest ρ mm => ∃ a' b' kvs o4 o5 o6, ρ = [some (.loc l), some (.loc q), some (.int most), some (.loc m.length), o4, o5, o6] ∧ mm = m.set l (bag a' b' c) ++ [.dict kvs false] ∧ (kvs.map (·.1)).Nodup ∧ (∀ p ∈ kvs, madeB vs p.1 ∧ p.2 = .int 1) ∧ kvs.length + rest.length ≤ most)
    (irange1_ev (by omega) (by simp [opAdd, h24])) (fun _ _ _ _ => rfl) ⟨a1, b1, [], none, none, none, rfl, rfl, by simp, by simp, by simpa [rangeD_len] using hk⟩ (by
      rintro x rest ρ mm ⟨a', b', kvs, o4, o5, o6, rfl, rfl, nd, hmk, hlen⟩
      have hrows : ∀ p ∈ kvs, rowB p.1 = true := fun p hp => (made_row hvv (hmk p hp).1).1
      have e1 : (m.set l (bag a' b' c) ++ [.dict kvs false])[l]? = some (bag a' b' c) := by rw [List.getElem?_append_left (by simpa using hlt)]; simp [hlt]
      have e2 : (m.set l (bag a' b' c) ++ [.dict kvs false])[q]? = some (.lst vs) := by rw [List.getElem?_append_left (by simpa using hqt), List.getElem?_set_ne (Ne.symm hne)]; exact hq
      have e3 : (m.set l (bag a' b' c) ++ [.dict kvs false])[m.length]? = some (.dict kvs false) := by
        rw [List.getElem?_append_right (by simp)]; simp
      obtain ⟨r, a2, b2, o5', hmade, ht⟩ := turn28 n l q m.length a' b' c vs (m.set l (bag a' b' c) ++ [.dict kvs false]) kvs (some (.int most)) (some x) o5 o6 e1 e2 hne e3 (by omega)
        ((hcl.set l a' b' c).app_dict fun p hp => ⟨hrows p hp, by rw [(hmk p hp).2]; rfl⟩) h0 hl hv hvv hrows (by simp at hlen; omega)
      refine ⟨_, _, _, rfl, .inl ht, a2, b2, dPut kvs r (.int 1), some x, o5', o6, rfl, ?_, dPut_nodup nd, dPut_all hmk ⟨hmade, rfl⟩, ?_⟩
      · rw [set_app_len (by simpa using hlt), List.set_set]
        have : (m.set l (bag a2 b2 c)).length = m.length := by simp
        rw [← this]
        simp
      · have := dPut_len kvs r (.int 1)
        simp at hlen
        omega)
  obtain ⟨a', b', kvs, o4, o5, o6, rfl, rfl, nd, hmk, hlen⟩ := i1
  simp only [List.length_nil, Nat.add_zero] at hlen
  have hrows : (kvs.map (·.1)).all rowB = true := by
    simp only [List.all_map, List.all_eq_true, Function.comp_apply]
    exact fun p hp => (made_row hvv (hmk p hp).1).1
  refine ⟨kvs.map (·.1), a', b', nd, ?_, by simpa using hlen, ?_⟩
  · intro r hr
    obtain ⟨p, hp, rfl⟩ := List.mem_map.mp hr
    exact (hmk p hp).1
  have hso := rows_sortable hrows
  have hcs := fun k => rows_closed (k := k) (sort_all (xs := kvs.map (·.1)) hrows)
  have e3 : (m.set l (bag a' b' c) ++ [.dict kvs false])[m.length]? = some (.dict kvs false) := by
    rw [List.getElem?_append_right (by simp)]; simp
  have hkl : kvs.length ≤ sizeLine := by omega
  have hbs : bSorted [.loc m.length] (m.set l (bag a' b' c) ++ [.dict kvs false]) = some (.loc (m.length + 1), m.set l (bag a' b' c) ++ [.dict kvs false, .lst (sortD (kvs.map (·.1)))]) := by
    simp only [bSorted, seqD, e3, hkl, if_true]
    simp [hso, hkl]
  have hbt : bTuple [.loc (m.length + 1)] (m.set l (bag a' b' c) ++ [.dict kvs false, .lst (sortD (kvs.map (·.1)))]) = some (.tup (sortD (kvs.map (·.1))), m.set l (bag a' b' c) ++ [.dict kvs false, .lst (sortD (kvs.map (·.1)))]) := by
    have := bTuple_end2 (m := m.set l (bag a' b' c)) (o := .dict kvs false) (xs := sortD (kvs.map (·.1)))
    simpa using this
  have hct : ∀ k, closed k (tab (sortD (kvs.map (·.1)))) = true := fun k => tab_closed (sort_all hrows)
  have g1 : gcO (m.set l (bag a' b' c) ++ [.dict kvs false]) (.ok (tab (sortD (kvs.map (·.1)))) (m.set l (bag a' b' c) ++ [.dict kvs false, .lst (sortD (kvs.map (·.1)))])) = .ok (tab (sortD (kvs.map (·.1)))) (m.set l (bag a' b' c) ++ [.dict kvs false]) := by
    have := gcO_app (m := m.set l (bag a' b' c) ++ [.dict kvs false]) (d := tab (sortD (kvs.map (·.1)))) [.lst (sortD (kvs.map (·.1)))] (hct _)
    simpa using this
  have g2 : gcO m (.ok (tab (sortD (kvs.map (·.1)))) (m.set l (bag a' b' c) ++ [.dict kvs false])) = .ok (tab (sortD (kvs.map (·.1)))) (m.set l (bag a' b' c)) := gc_set hcl _ (hct _)
  have ed : d28 = sSeq (sSet 3 (xGc (xEmpty))) (sSeq (sFor (iRange1 (aCons (xCall 24 (aCons (xVar 0) (aCons (xBin opAdd (xVar 2) (xLit (.int 1))) (aNil)))) (aNil))) (.nm 4) b28b) (sRet (xGc (xTup (aCons (xLit (.str "tables")) (aCons (xCallF bTuple (aCons (xCallF bSorted (aCons (xVar 3) (aNil))) (aNil))) (aNil))))))) := rfl
  have g0 : gcO m (.ok (.loc m.length) (m ++ [.dict [] false])) = .ok (.loc m.length) (m ++ [.dict [] false]) := by simp [gcO, closed]
  rw [r28, ed]
  simp [xEmpty, g0, h1, hbs, hbt, g1, g2]
end K60
end Mn
set_option Elab.async false
set_option linter.all false
set_option maxRecDepth 100000
set_option maxHeartbeats 1000000
namespace Mn
namespace K60
open PySem
def b30b : DenS := sSeq (sSet 6 (xGc (xCall 29 (aCons (xVar 0) (aCons (xVar 2) (aNil)))))) (sIf (tGc (tB (xBin opNotIn (xVar 6) (xBin opIx (xVar 1) (xLit (.int 1)))))) (sSub (xVar 4) (xGc (xVar 6)) (xGc (xLit (.int 1)))) (sNil))
theorem s30 (n l q : Nat) (a b c : Int) (xs vs : List D) (m : Mem) (hm : m[l]? = some (bag a b c)) (hq : m[q]? = some (.lst vs)) (hne : q ≠ l) (hcl : ClM m) (h0 : vs ≠ []) (hl : vs.length ≤ 1000) (hv : vs.all isStr = true) (hvv : vs.all valB = true) (hx : xs.all rowB = true) (hlx : xs.length ≤ 1000) :
    ∃ out ks a' b', out.Sublist xs ∧ ks.Nodup ∧ (∀ r ∈ ks, madeB vs r ∧ r ∉ xs) ∧ ks.length ≤ 3 ∧ run ds (n + 5) 30 [.loc l, tab xs, .loc q] m = .ok (chg out (sortD ks)) (m.set l (bag a' b' c)) := by
  have z := sizeLine_is
  have hlt : l < m.length := (List.getElem?_eq_some_iff.mp hm).1
  have hqt : q < m.length := (List.getElem?_eq_some_iff.mp hq).1
  obtain ⟨out, m1, hl1, ⟨a0, b0, rfl, hsub⟩⟩ := xLc_invT (fe := run ds (n + 4)) (ρ := [some (.loc l), some (tab xs), some (.loc q), none, none, none, none]) (m := m) (m1 := m) (it := iAny (xBin opIx (xVar 1) (xLit (.int 1)))) (p := .nm 6) (own := [6]) (t := tGc (tB (xBin opEq (xCall 24 (aCons (xVar 0) (aCons (xLit (.int 3)) (aNil)))) (xLit (.int 0))))) (e := xGc (xVar 6)) (xs := xs)
    (fun rest acc mm => ∃ a' b', mm = m.set l (bag a' b' c) ∧ (acc ++ rest).Sublist xs) (by simp [opIx, tab]) ⟨a, b, (set_self hm).symm, by simp⟩ (by omega) (by
      rintro x rest acc mm ⟨a', b', rfl, hsub⟩
      obtain ⟨r, a2, b2, _, _, h24⟩ := s24 (n + 3) l a' b' c 3 (m.set l (bag a' b' c)) (by simp [hlt]) (by omega) (by omega)
      rw [List.set_set] at h24
      have ht : ∀ k, gcB (m.set l (bag a' b' c)) (.ok k (m.set l (bag a2 b2 c))) = .ok k (m.set l (bag a2 b2 c)) := fun k => gcB_len (by simp)
      refine ⟨_, (r == 0), m.set l (bag a2 b2 c), rfl, by simp [wipeE, h24, opEq, eqM, pureD, eqv, ht], fun _ => ⟨a2, b2, rfl, ?_⟩, fun _ => ⟨x, m.set l (bag a2 b2 c), by simp [wipeE], a2, b2, rfl, by simpa using hsub⟩⟩
      exact (List.Sublist.append_left (List.sublist_cons_self x rest) acc).trans hsub)
  rw [List.append_nil] at hsub
  have hcl1 := hcl.set l a0 b0 c
  have hout : out.all rowB = true := List.all_eq_true.mpr fun d hd => List.all_eq_true.mp hx d (hsub.mem hd)
  have hco := fun k => rows_closed (k := k) hout
  have e1 : gcO m (.ok (.tup out) (m.set l (bag a0 b0 c) ++ [.lst out])) = .ok (.tup out) (m.set l (bag a0 b0 c)) := gc_set hcl _ (by simp [closed, hco])
  have hbt0 := bTuple_end (m := m.set l (bag a0 b0 c)) (xs := out)
  rw [List.length_set] at hl1 hbt0
  obtain ⟨r, a1, b1, hr0, hr1, h24⟩ := s24 (n + 3) l a0 b0 c 4 (m.set l (bag a0 b0 c) ++ [.dict [] false]) (by rw [List.getElem?_append_left (by simpa using hlt)]; simp [hlt]) (by omega) (by omega)
  obtain ⟨k, rfl⟩ := Int.eq_ofNat_of_zero_le hr0
  rw [set_app_len (by simpa using hlt), List.set_set] at h24
  have hk : k ≤ 3 := by omega
  obtain ⟨ρ', m', h1, i1⟩ := sFor_inv (fe := run ds (n + 4)) (ρ := [some (.loc l), some (tab xs), some (.loc q), some (.tup out), some (.loc m.length), none, none]) (m := m.set l (bag a0 b0 c) ++ [.dict [] false]) (m1 := m.set l (bag a1 b1 c) ++ [.dict [] false]) (it := iRange1 (aCons (xCall 24 (aCons (xVar 0) (aCons (xLit (.int 4)) (aNil)))) (aNil))) (p := .nm 5) (b := b30b) (w := []) (xs := rangeD 0 k)
    (fun rest ρ mm => ∃ a' b' kvs o5 o6, ρ = [some (.loc l), some (tab xs), some (.loc q), some (.tup out), some (.loc m.length), o5, o6] ∧ mm = m.set l (bag a' b' c) ++ [.dict kvs false] ∧ (kvs.map (·.1)).Nodup ∧ (∀ p ∈ kvs, (madeB vs p.1 ∧ p.1 ∉ xs) ∧ p.2 = .int 1) ∧ kvs.length + rest.length ≤ 3)
    (irange1_ev (by omega) (by simp [h24])) (fun _ _ _ _ => rfl) ⟨a1, b1, [], none, none, rfl, rfl, by simp, by simp, by simpa [rangeD_len] using hk⟩ (by
      rintro x rest ρ mm ⟨a', b', kvs, o5, o6, rfl, rfl, nd, hmk, hlen⟩
      have hrows : ∀ p ∈ kvs, rowB p.1 = true := fun p hp => (made_row hvv (hmk p hp).1.1).1
      have e1 : (m.set l (bag a' b' c) ++ [.dict kvs false])[l]? = some (bag a' b' c) := by rw [List.getElem?_append_left (by simpa using hlt)]; simp [hlt]
      have e2 : (m.set l (bag a' b' c) ++ [.dict kvs false])[q]? = some (.lst vs) := by rw [List.getElem?_append_left (by simpa using hqt), List.getElem?_set_ne (Ne.symm hne)]; exact hq
      obtain ⟨r, a2, b2, hmade, ht⟩ := s29 (n + 1) l q a' b' c vs (m.set l (bag a' b' c) ++ [.dict kvs false]) e1 e2 hne ((hcl.set l a' b' c).app_dict fun p hp => ⟨hrows p hp, by rw [(hmk p hp).2]; rfl⟩) h0 hl hv
      rw [set_app_len (by simpa using hlt), List.set_set] at ht
      have hr := (made_row hvv hmade).1
      have e3 : (m.set l (bag a2 b2 c) ++ [.dict kvs false])[m.length]? = some (.dict kvs false) := by
        rw [List.getElem?_append_right (by simp)]; simp
      have g1 : gcO (m.set l (bag a' b' c) ++ [.dict kvs false]) (.ok r (m.set l (bag a2 b2 c) ++ [.dict kvs false])) = .ok r (m.set l (bag a2 b2 c) ++ [.dict kvs false]) := gcO_len (by simp)
      by_cases hin : r ∈ xs
      · refine ⟨_, [some (.loc l), some (tab xs), some (.loc q), some (.tup out), some (.loc m.length), some x, some r], _, rfl, .inl (by simp [b30b, ht, g1, opNotIn, opIx, row_in hr hx, hin]), a2, b2, kvs, some x, some r, rfl, rfl, nd, hmk, by simp at hlen; omega⟩
      · have hkd := rows_kind hr hrows
        have hpl : (dPut kvs r (.int 1)).length ≤ sizeLine := by
          have := dPut_len kvs r (.int 1)
          simp at hlen
          omega
        have es : (m.set l (bag a2 b2 c) ++ [O.dict kvs false]).set m.length (O.dict (dPut kvs r (.int 1)) false) = m.set l (bag a2 b2 c) ++ [O.dict (dPut kvs r (.int 1)) false] := by
          have : (m.set l (bag a2 b2 c)).length = m.length := by simp
          rw [← this]
          simp
        have hs : setD (.loc m.length) r (.int 1) (m.set l (bag a2 b2 c) ++ [O.dict kvs false]) = some (m.set l (bag a2 b2 c) ++ [O.dict (dPut kvs r (.int 1)) false]) := by
          simp only [setD, e3, hkd, hpl, and_self, if_true, es]
        refine ⟨_, [some (.loc l), some (tab xs), some (.loc q), some (.tup out), some (.loc m.length), some x, some r], m.set l (bag a2 b2 c) ++ [.dict (dPut kvs r (.int 1)) false], rfl, .inl (by simp [b30b, ht, g1, opNotIn, opIx, row_in hr hx, hin, sSub, hs]), a2, b2, dPut kvs r (.int 1), some x, some r, rfl, rfl, dPut_nodup nd, dPut_all hmk ⟨⟨hmade, hin⟩, rfl⟩, ?_⟩
        have := dPut_len kvs r (.int 1)
        simp at hlen
        omega)
  obtain ⟨a', b', kvs, o5, o6, rfl, rfl, nd, hmk, hlen⟩ := i1
  simp only [List.length_nil, Nat.add_zero] at hlen
  have hrows : (kvs.map (·.1)).all rowB = true := by
    simp only [List.all_map, List.all_eq_true, Function.comp_apply]
    exact fun p hp => (made_row hvv (hmk p hp).1.1).1
  refine ⟨out, kvs.map (·.1), a', b', hsub, nd, ?_, by simpa using hlen, ?_⟩
  · intro r hr
    obtain ⟨p, hp, rfl⟩ := List.mem_map.mp hr
    exact (hmk p hp).1
  have hso := rows_sortable hrows
  have hcs := fun k => rows_closed (k := k) (sort_all (xs := kvs.map (·.1)) hrows)
  have e3 : (m.set l (bag a' b' c) ++ [.dict kvs false])[m.length]? = some (.dict kvs false) := by
    rw [List.getElem?_append_right (by simp)]; simp
  have hkl : kvs.length ≤ sizeLine := by omega
  have hbs : bSorted [.loc m.length] (m.set l (bag a' b' c) ++ [.dict kvs false]) = some (.loc (m.length + 1), m.set l (bag a' b' c) ++ [.dict kvs false, .lst (sortD (kvs.map (·.1)))]) := by
    simp only [bSorted, seqD, e3, hkl, if_true]
    simp [hso, hkl]
  have hbt : bTuple [.loc (m.length + 1)] (m.set l (bag a' b' c) ++ [.dict kvs false, .lst (sortD (kvs.map (·.1)))]) = some (.tup (sortD (kvs.map (·.1))), m.set l (bag a' b' c) ++ [.dict kvs false, .lst (sortD (kvs.map (·.1)))]) := by
    have := bTuple_end2 (m := m.set l (bag a' b' c)) (o := .dict kvs false) (xs := sortD (kvs.map (·.1)))
    simpa using this
  have hct : ∀ k, closed k (chg out (sortD (kvs.map (·.1)))) = true := fun k => by simp [chg, closed, closeds, hco, hcs]
  have g1 : gcO (m.set l (bag a' b' c) ++ [.dict kvs false]) (.ok (chg out (sortD (kvs.map (·.1)))) (m.set l (bag a' b' c) ++ [.dict kvs false, .lst (sortD (kvs.map (·.1)))])) = .ok (chg out (sortD (kvs.map (·.1)))) (m.set l (bag a' b' c) ++ [.dict kvs false]) := by
    have := gcO_app (m := m.set l (bag a' b' c) ++ [.dict kvs false]) (d := chg out (sortD (kvs.map (·.1)))) [.lst (sortD (kvs.map (·.1)))] (hct _)
    simpa using this
  have g2 : gcO m (.ok (chg out (sortD (kvs.map (·.1)))) (m.set l (bag a' b' c) ++ [.dict kvs false])) = .ok (chg out (sortD (kvs.map (·.1)))) (m.set l (bag a' b' c)) := gc_set hcl _ (hct _)
  have ed : d30 = sSeq (sSet 3 (xGc (xCallF bTuple (aCons (xLc (iAny (xBin opIx (xVar 1) (xLit (.int 1)))) (.nm 6) (tGc (tB (xBin opEq (xCall 24 (aCons (xVar 0) (aCons (xLit (.int 3)) (aNil)))) (xLit (.int 0))))) (xGc (xVar 6)) [6]) (aNil))))) (sSeq (sSet 4 (xGc (xEmpty))) (sSeq (sFor (iRange1 (aCons (xCall 24 (aCons (xVar 0) (aCons (xLit (.int 4)) (aNil)))) (aNil))) (.nm 5) b30b) (sRet (xGc (xTup (aCons (xLit (.str "change")) (aCons (xVar 3) (aCons (xCallF bTuple (aCons (xCallF bSorted (aCons (xVar 4) (aNil))) (aNil))) (aNil))))))))) := rfl
  have g0 : gcO (m.set l (bag a0 b0 c)) (.ok (.loc m.length) (m.set l (bag a0 b0 c) ++ [.dict [] false])) = .ok (.loc m.length) (m.set l (bag a0 b0 c) ++ [.dict [] false]) := by simp [gcO, closed]
  rw [r30, ed]
  simp [xEmpty, hl1, hbt0, e1, g0, h1, hbs, hbt, g1, g2]
end K60
end Mn
set_option Elab.async false
set_option linter.all false
set_option maxRecDepth 100000
set_option maxHeartbeats 1000000
namespace Mn
namespace K60
open PySem
theorem s4l (n l : Nat) (xs : List D) (m : Mem) (hm : m[l]? = some (.lst xs)) (h : ascOk xs = true) (hl : xs.length ≤ sizeLine) : run ds (n + 1) 4 [.loc l] m = .ok (.bl (ascD xs)) m := by
  have hlt : l < m.length := (List.getElem?_eq_some_iff.mp hm).1
  have e1 : (m ++ [.lst xs.tail])[l]? = some (.lst xs) := by rw [List.getElem?_append_left hlt]; exact hm
  have hlc := xLc_bools (fe := run ds n) (ρ := [some (.loc l), none, none]) (m := m) (m1 := m ++ [.lst xs.tail]) (it := iZipD (aCons (xVar 0) (aCons (xSl (xVar 0) (oSome (xLit (.int 1))) oNone) aNil))) (p := .tp [.nm 1, .nm 2]) (own := [1, 2]) (e := xGc (xBin opLt (xVar 1) (xVar 2))) pairLt (xs := zipD xs xs.tail) (w := wD (.loc l) xs ++ wD (.loc m.length) xs.tail)
    (by
      have hm' : m[l]? = some (.lst xs) := hm
      have e2 : zipI (m ++ [.lst xs.tail]) (.loc l) (.loc m.length) = some (xs, xs.tail, wD (.loc l) xs ++ wD (.loc m.length) xs.tail) := by simp only [zipI, listM, e1, get_end]
      have e3 : opSl (.loc l) (some 1) none m = some (.loc m.length, m ++ [.lst xs.tail]) := by simp only [opSl, hm', cut_tail]
      simp only [iZipD_ev, aCons_ev, aNil_ev, xVar_ev, xSl_ev, oSome_ev, oNone_ev, xLit_ev, List.getElem?_cons_zero, Out.bind_ok, e3, Out.ofO_some, e2])
    (by simp [watchOk, wD, e1]) (by simp [zipD]; omega) fun x hx => by
      obtain ⟨a, b, rfl, hab⟩ := zip_ok xs h x hx
      refine ⟨_, rfl, ?_⟩
      simp [wipeE, opLt_of hab, pairLt]
  have hb := bAll_end (m := m ++ [.lst xs.tail]) (xs := zipD xs xs.tail) pairLt
  rw [zip_asc] at hb
  simp only [r4, d4, bodyD_ev, List.length_cons, List.length_nil, sRet_ev, xGc_ev, xCallF_ev, aCons_ev, aNil_ev, List.map_cons, List.map_nil, List.cons_append, List.nil_append, List.replicate, hlc, Out.bind_ok, hb, Out.ofO_some]
  simp
/-- pairs with a number behind -/
def pairI : D → Bool
  | .tup [_, .int _] => true
  | _ => false
def cntB : D → Bool
  | .tup [_, .int i] => decide (1 ≤ i)
  | _ => false
def b8b : DenS := sSeq (sIf (tGc (tOo (tNt (tVal (xIsi ["tuple"] (xVar 1)))) (tB (xBin opNe (xCallF bLen (aCons (xVar 1) (aNil))) (xLit (.int 2)))))) (sRet (xGc (xLit (.bl false)))) (sNil)) (sIf (tGc (tOo (tNt (tVal (xIsi ["int"] (xBin opIx (xVar 1) (xLit (.int 1)))))) (tOo (tVal (xIsi ["bool"] (xBin opIx (xVar 1) (xLit (.int 1))))) (tB (xBin opLt (xBin opIx (xVar 1) (xLit (.int 1))) (xLit (.int 1))))))) (sRet (xGc (xLit (.bl false)))) (sNil))
theorem s8 (n : Nat) (xs : List D) (m : Mem) (h : xs.all pairI = true) : run ds (n + 1) 8 [.tup xs] m = .ok (.bl (xs.all cntB)) m := by
  obtain ⟨h1, h2⟩ := sFor_check (fe := run ds n) (ρ := [some (.tup xs), none]) (m := m) (m1 := m) (it := iAny (xVar 0)) (p := .nm 1) (b := b8b) (w := []) (xs := xs) cntB (fun ρ => ∃ o, ρ = [some (.tup xs), o]) (by simp) rfl ⟨none, rfl⟩ (by
    rintro x hx ρ ⟨o, rfl⟩
    have hp := List.all_eq_true.mp h x hx
    unfold pairI at hp
    split at hp
    · rename_i y i
      refine ⟨_, rfl, fun c => ⟨[some (.tup xs), some (.tup [y, .int i])], ?_, _, rfl⟩, fun c => ?_⟩
      · have c1 : ¬ i < 1 := by have := of_decide_eq_true c; omega
        simp [b8b, tyN, isT, truth, bLen, opNe, eqM, pureD, eqv, opIx, opLt, c1]
      · have c1 : i < 1 := by have := of_decide_eq_false c; omega
        simp [b8b, tyN, isT, truth, bLen, opNe, eqM, pureD, eqv, opIx, opLt, c1]
    · cases hp)
  have ed : d8 = sSeq (sIf (tGc (tNt (tVal (xIsi ["tuple"] (xVar 0))))) (sRet (xGc (xLit (.bl false)))) (sNil)) (sSeq (sFor (iAny (xVar 0)) (.nm 1) b8b) (sRet (xGc (xLit (.bl true))))) := rfl
  rw [r8, ed]
  cases c : xs.all cntB with
  | true =>
    obtain ⟨ρ', h3, _⟩ := h1 c
    simp [tyN, isT, truth, h3]
  | false => simp [tyN, isT, truth, h2 c]
def rowI : D → Bool
  | .tup [.int _, .int _] => true
  | _ => false
def prodI : D → Bool
  | .tup [.tup rs, .int _] => rs.all rowI && decide (rs.length ≤ 1000)
  | _ => false
def fstD : D → D
  | .tup (a :: _) => a
  | d => d
def rowOk (k : Nat) : D → Bool
  | .tup [.int r, _] => decide (0 ≤ r) && decide (r ≤ (k : Int) - 1)
  | _ => false
def prodOk (k : Nat) : D → Bool
  | .tup [.tup rs, _] => rs.all cntB && rs.all (rowOk k) && ascD (rs.map fstD)
  | _ => false
def sumB (k : Nat) (ps : List D) : Bool := ps.all cntB && decide (ps.length ≤ 2000) && ps.all (prodOk k) && ascD (ps.map fstD)
theorem rowI_shape {d : D} (h : rowI d = true) : ∃ r t, d = .tup [.int r, .int t] := by
  unfold rowI at h
  split at h
  · exact ⟨_, _, rfl⟩
  · cases h
theorem prodI_shape {d : D} (h : prodI d = true) : ∃ rs i, d = .tup [.tup rs, .int i] ∧ rs.all rowI = true ∧ rs.length ≤ 1000 := by
  unfold prodI at h
  split at h
  · simp only [Bool.and_eq_true, decide_eq_true_eq] at h
    exact ⟨_, _, rfl, h.1, h.2⟩
  · cases h
theorem rowI_pure {k : Nat} : ∀ {xs : List D}, xs.all rowI = true → pureDs (k + 1) xs = true
  | [], _ => rfl
  | x :: xs, h => by
    simp only [List.all_cons, Bool.and_eq_true] at h
    obtain ⟨r, t, rfl⟩ := rowI_shape h.1
    simp [pureDs, pureD, rowI_pure h.2]
theorem rowI_comp : ∀ {xs ys : List D}, xs.all rowI = true → ys.all rowI = true → compAll (toPys xs) (toPys ys) = true
  | [], ys, _, _ => by simp [toPys, compAll]
  | x :: xs, [], _, _ => by simp [toPys, compAll]
  | x :: xs, y :: ys, h, g => by
    simp only [List.all_cons, Bool.and_eq_true] at h g
    obtain ⟨r, t, rfl⟩ := rowI_shape h.1
    obtain ⟨r', t', rfl⟩ := rowI_shape g.1
    simp only [toPys, toPy, compAll, comp, rowI_comp h.2 g.2, ite_self]
theorem ints_ascOk : ∀ {xs : List D}, (∀ x ∈ xs, ∃ i, x = .int i) → ascOk xs = true
  | [], _ => rfl
  | [a], _ => rfl
  | a :: b :: r, h => by
    obtain ⟨i, rfl⟩ := h a (by simp)
    obtain ⟨j, rfl⟩ := h b (by simp)
    simp only [ascOk, ltOk, Bool.true_and]
    exact ints_ascOk fun x hx => h x (List.mem_cons_of_mem _ hx)
theorem prods_ascOk : ∀ {xs : List D}, (∀ x ∈ xs, ∃ rs, x = .tup rs ∧ rs.all rowI = true) → ascOk xs = true
  | [], _ => rfl
  | [a], _ => rfl
  | a :: b :: r, h => by
    obtain ⟨i, rfl, hi⟩ := h a (by simp)
    obtain ⟨j, rfl, hj⟩ := h b (by simp)
    simp only [ascOk, ltOk, Bool.and_eq_true]
    exact ⟨⟨⟨by simp [pureD, rowI_pure hi], by simp [pureD, rowI_pure hj]⟩, by simp [toPy, comp, rowI_comp hi hj]⟩, prods_ascOk fun x hx => h x (List.mem_cons_of_mem _ hx)⟩
def b9b : DenS := sSeq (sIf (tGc (tOo (tNt (tVal (xCall 8 (aCons (xVar 2) (aNil))))) (tNt (tVal (xCallF bAll (aCons (xLc (iAny (xVar 2)) (.tp [.nm 4, .nm 3]) (tYesD) (xGc (xCall 0 (aCons (xVar 4) (aCons (xLit (.int 0)) (aCons (xBin opSub (xVar 1) (xLit (.int 1))) (aNil)))))) [4, 3]) (aNil))))))) (sRet (xGc (xLit (.bl false)))) (sNil)) (sIf (tGc (tNt (tVal (xCall 4 (aCons (xLc (iAny (xVar 2)) (.tp [.nm 4, .nm 3]) (tYesD) (xGc (xVar 4)) [4, 3]) (aNil)))))) (sRet (xGc (xLit (.bl false)))) (sNil))
theorem t9 (n k : Nat) (rs : List D) (i : Int) (o0 o4 : Option D) (m : Mem) (hr : rs.all rowI = true) (hl : rs.length ≤ 1000) : b9b (run ds (n + 1)) [o0, some (.int k), some (.tup rs), some (.int i), o4] m = if prodOk k (.tup [.tup rs, .int i]) = true then .next [o0, some (.int k), some (.tup rs), some (.int i), o4] m else .ret (.bl false) m := by
  have z := sizeLine_is
  have hp : rs.all pairI = true := List.all_eq_true.mpr fun x hx => by
    obtain ⟨r, t, rfl⟩ := rowI_shape (List.all_eq_true.mp hr x hx)
    rfl
  have h8 := s8 n rs m hp
  have l1 := xLc_bools (fe := run ds (n + 1)) (ρ := [o0, some (.int k), some (.tup rs), some (.int i), o4]) (m := m) (m1 := m) (it := iAny (xVar 2)) (p := .tp [.nm 4, .nm 3]) (own := [4, 3]) (e := xGc (xCall 0 (aCons (xVar 4) (aCons (xLit (.int 0)) (aCons (xBin opSub (xVar 1) (xLit (.int 1))) (aNil)))))) (rowOk k) (xs := rs) (w := [])
    (by simp) rfl (by omega) fun x hx => by
      obtain ⟨r, t, rfl⟩ := rowI_shape (List.all_eq_true.mp hr x hx)
      refine ⟨_, rfl, ?_⟩
      simp [wipeE, opSub, s0, rowOk]
  have l2 := xLc_map (fe := run ds (n + 1)) (ρ := [o0, some (.int k), some (.tup rs), some (.int i), o4]) (m := m) (m1 := m) (it := iAny (xVar 2)) (p := .tp [.nm 4, .nm 3]) (own := [4, 3]) (e := xGc (xVar 4)) fstD (xs := rs) (w := [])
    (by simp) rfl (by omega) fun x hx => by
      obtain ⟨r, t, rfl⟩ := rowI_shape (List.all_eq_true.mp hr x hx)
      refine ⟨_, rfl, ?_⟩
      simp [wipeE, fstD]
  have h4 := s4l n m.length (rs.map fstD) (m ++ [.lst (rs.map fstD)]) (by simp) (ints_ascOk fun x hx => by
    obtain ⟨d, hd, rfl⟩ := List.mem_map.mp hx
    obtain ⟨r, t, rfl⟩ := rowI_shape (List.all_eq_true.mp hr d hd)
    exact ⟨r, rfl⟩) (by simp; omega)
  cases c1 : rs.all cntB <;> cases c2 : rs.all (rowOk k) <;> cases c3 : ascD (rs.map fstD) <;> simp [b9b, h8, truth, l1, l2, h4, c1, c2, c3, prodOk]
theorem s9 (n k : Nat) (ps : List D) (m : Mem) (hk : k ≤ 40) (h : ps.all prodI = true) (hl : ps.length ≤ 10000) : run ds (n + 2) 9 [.tup ps, .int k] m = .ok (.bl (sumB k ps)) m := by
  have z := sizeLine_is
  have hp : ps.all pairI = true := List.all_eq_true.mpr fun x hx => by
    obtain ⟨r, t, rfl, _⟩ := prodI_shape (List.all_eq_true.mp h x hx)
    rfl
  have h0 := s0 n (k : Int) 0 40 m
  have k1 : (decide ((0 : Int) ≤ k) && decide ((k : Int) ≤ 40)) = true := by simp; omega
  rw [k1] at h0
  have h8 := s8 n ps m hp
  obtain ⟨h1, h2⟩ := sFor_check (fe := run ds (n + 1)) (ρ := [some (.tup ps), some (.int k), none, none, none]) (m := m) (m1 := m) (it := iAny (xVar 0)) (p := .tp [.nm 2, .nm 3]) (b := b9b) (w := []) (xs := ps) (prodOk k) (fun ρ => ∃ o2 o3 o4, ρ = [some (.tup ps), some (.int k), o2, o3, o4]) (by simp) rfl ⟨none, none, none, rfl⟩ (by
    rintro x hx ρ ⟨o2, o3, o4, rfl⟩
    obtain ⟨rs, i, rfl, hr, hrl⟩ := prodI_shape (List.all_eq_true.mp h x hx)
    have ht := t9 n k rs i (some (.tup ps)) o4 m hr hrl
    refine ⟨_, rfl, fun c => ⟨[some (.tup ps), some (.int k), some (.tup rs), some (.int i), o4], ?_, _, _, _, rfl⟩, fun c => ?_⟩
    · rw [c, if_pos rfl] at ht; exact ht
    · rw [c] at ht; simpa using ht)
  have l2 := fun ρ2 ρ3 ρ4 => xLc_map (fe := run ds (n + 1)) (ρ := [some (.tup ps), some (.int k), ρ2, ρ3, ρ4]) (m := m) (m1 := m) (it := iAny (xVar 0)) (p := .tp [.nm 2, .nm 3]) (own := [2, 3]) (e := xGc (xVar 2)) fstD (xs := ps) (w := [])
    (by simp) rfl (by omega) fun x hx => by
      obtain ⟨rs, i, rfl, hr, hrl⟩ := prodI_shape (List.all_eq_true.mp h x hx)
      refine ⟨_, rfl, ?_⟩
      simp [wipeE, fstD]
  have h4 := s4l n m.length (ps.map fstD) (m ++ [.lst (ps.map fstD)]) (by simp) (prods_ascOk fun x hx => by
    obtain ⟨d, hd, rfl⟩ := List.mem_map.mp hx
    obtain ⟨rs, i, rfl, hr, hrl⟩ := prodI_shape (List.all_eq_true.mp h d hd)
    exact ⟨rs, rfl, hr⟩) (by simp; omega)
  have ed : d9 = sSeq (sIf (tGc (tOo (tNt (tVal (xCall 0 (aCons (xVar 1) (aCons (xLit (.int 0)) (aCons (xLit (.int 40)) (aNil))))))) (tOo (tNt (tVal (xCall 8 (aCons (xVar 0) (aNil))))) (tB (xBin opGt (xCallF bLen (aCons (xVar 0) (aNil))) (xLit (.int 2000))))))) (sRet (xGc (xLit (.bl false)))) (sNil)) (sSeq (sFor (iAny (xVar 0)) (.tp [.nm 2, .nm 3]) b9b) (sRet (xGc (xCall 4 (aCons (xLc (iAny (xVar 0)) (.tp [.nm 2, .nm 3]) (tYesD) (xGc (xVar 2)) [2, 3]) (aNil)))))) := rfl
  rw [r9, ed]
  cases c1 : ps.all cntB with
  | false => simp [h0, h8, truth, c1, sumB]
  | true =>
    by_cases c2 : ps.length ≤ 2000
    · have c2' : ¬ (2000 : Int) < ps.length := by omega
      cases c3 : ps.all (prodOk k) with
      | false =>
        have h3 := h2 c3
        simp [h0, h8, truth, c1, c2', opGt, bLen, h3, sumB, c3]
      | true =>
        obtain ⟨ρ', h3, o2, o3, o4, rfl⟩ := h1 c3
        simp [h0, h8, truth, c1, c2, c2', opGt, bLen, h3, sumB, c3, l2, h4]
    · have c2' : (2000 : Int) < ps.length := by omega
      simp [h0, h8, truth, c1, c2', opGt, bLen, sumB, c2]
end K60
end Mn
set_option Elab.async false
set_option linter.all false
set_option maxRecDepth 100000
set_option maxHeartbeats 1000000
namespace Mn
namespace K60
open PySem
/-- what stands anew in a store of the same size; what was made behind it is forgotten -/
theorem gcO_new {M M' : Mem} {r : D} (hl : M'.length = M.length) (h : ClM M') (x : Mem) (hr : closed M.length r = true) : gcO M (.ok r (M' ++ x)) = .ok r M' := by
  have e : (M' ++ x).take M.length = M' := by
    rw [← hl]; exact take_app M' x
  have hc : cutOk M (M' ++ x) = true := by
    simp only [cutOk, Bool.or_eq_true, Bool.and_eq_true, decide_eq_true_eq, e, List.all_eq_true]
    refine .inr ⟨by simp; omega, fun o ho => ?_⟩
    have := h o ho
    rwa [hl] at this
  simp only [gcO, hc, hr, e]
  simp
theorem ClM.put {m : Mem} (h : ClM m) {o : O} (ho : closedO m.length o = true) (l : Nat) : ClM (m.set l o) := by
  intro o' h'
  rw [List.length_set]
  rcases List.mem_or_eq_of_mem_set h' with h' | rfl
  · exact h _ h'
  · exact ho
theorem ClM.get {m : Mem} (h : ClM m) {o : O} {l : Nat} (ho : m[l]? = some o) : closedO m.length o = true := h o (List.mem_of_getElem? ho)
/-- numbers or none -/
def numI (ns : List D) : Prop := ∀ d ∈ ns, d = .non ∨ ∃ i, d = .int i
def goodP (k : Nat) (p : D) : Prop := ∃ rs i, p = .tup [.tup rs, .int i] ∧ rs.length ≤ 1000 ∧ ∀ d ∈ rs, ∃ (r : Nat) (t : Int), d = .tup [.int r, .int t] ∧ r < k
def atD (ns : List D) : D → D
  | .tup [.int r, _] => (ns[r.toNat]?).getD .non
  | _ => .non
def sndD : D → D
  | .tup [_, t] => t
  | d => d
def hasB (ns : List D) : D → Bool
  | .tup [.tup rs, _] => rs.all fun d => !decide (atD ns d = .non)
  | _ => false
def mvR (ns : List D) (d : D) : D := .tup [atD ns d, sndD d]
def movD (ns : List D) : D → D
  | .tup [.tup rs, i] => .tup [.tup (sortD (rs.map (mvR ns))), i]
  | d => d
def kb (ns ps : List D) : List D := (ps.filter (hasB ns)).map (movD ns)
theorem kb_snoc (ns done : List D) (p : D) : kb ns (done ++ [p]) = if hasB ns p = true then kb ns done ++ [movD ns p] else kb ns done := by
  unfold kb
  rw [List.filter_append, List.map_append]
  cases c : hasB ns p <;> simp [List.filter, c]
theorem kb_len (ns ps : List D) : (kb ns ps).length ≤ ps.length := by
  unfold kb
  rw [List.length_map]
  exact List.length_filter_le _ _
theorem at_get {ns : List D} {r : Nat} {t : Int} (h : r < ns.length) : L2.atI ns (r : Int) = some (atD ns (.tup [.int r, .int t])) := by
  rw [atI_nat]
  simp [atD, h]
theorem at_num {ns : List D} (hn : numI ns) {k : Nat} {r : Nat} {t : Int} (h : r < ns.length) : atD ns (.tup [.int r, .int t]) = .non ∨ ∃ i, atD ns (.tup [.int r, .int t]) = .int i := by
  have : atD ns (.tup [.int r, .int t]) = ns[r] := by simp [atD, h]
  rw [this]
  exact hn _ (List.getElem_mem h)
theorem mv_rowI {ns rs : List D} (hn : numI ns) (h : ∀ d ∈ rs, ∃ (r : Nat) (t : Int), d = .tup [.int r, .int t] ∧ r < ns.length) (hb : (rs.all fun d => !decide (atD ns d = .non)) = true) : (rs.map (mvR ns)).all rowI = true := by
  simp only [List.all_map, List.all_eq_true, Function.comp_apply]
  intro d hd
  have h1 := List.all_eq_true.mp hb d hd
  obtain ⟨r, t, rfl, hr⟩ := h d hd
  rcases at_num (k := 0) hn (t := t) hr with e | ⟨i, e⟩
  · simp [e] at h1
  · simp [mvR, e, sndD, rowI]
theorem rowI_sortable {xs : List D} (h : xs.all rowI = true) : sortable xs = true := by
  simp only [sortable, Bool.and_eq_true, List.all_eq_true]
  refine ⟨fun x hx => ?_, fun a ha b hb => ?_⟩
  · obtain ⟨r, t, rfl⟩ := rowI_shape (List.all_eq_true.mp h x hx)
    simp [pureD, pureDs]
  · obtain ⟨r, t, rfl⟩ := rowI_shape (List.all_eq_true.mp h a ha)
    obtain ⟨r', t', rfl⟩ := rowI_shape (List.all_eq_true.mp h b hb)
    simp [toPy, toPys, comp, compAll]
theorem rowI_closed {k : Nat} : ∀ {xs : List D}, xs.all rowI = true → closeds k xs = true
  | [], _ => rfl
  | x :: xs, h => by
    simp only [List.all_cons, Bool.and_eq_true] at h
    obtain ⟨r, t, rfl⟩ := rowI_shape h.1
    simp [closeds, closed, rowI_closed h.2]
def prodS : D → Bool
  | .tup [.tup rs, .int _] => rs.all rowI
  | _ => false
theorem prodS_shape {d : D} (h : prodS d = true) : ∃ rs i, d = .tup [.tup rs, .int i] ∧ rs.all rowI = true := by
  unfold prodS at h
  split at h
  · exact ⟨_, _, rfl, h⟩
  · cases h
theorem prodS_closed {k : Nat} : ∀ {xs : List D}, xs.all prodS = true → closeds k xs = true
  | [], _ => rfl
  | x :: xs, h => by
    simp only [List.all_cons, Bool.and_eq_true] at h
    obtain ⟨rs, i, rfl, hr⟩ := prodS_shape h.1
    simp [closeds, closed, rowI_closed hr, prodS_closed h.2]
theorem prodS_pure {k : Nat} : ∀ {xs : List D}, xs.all prodS = true → pureDs (k + 3) xs = true
  | [], _ => rfl
  | x :: xs, h => by
    simp only [List.all_cons, Bool.and_eq_true] at h
    obtain ⟨rs, i, rfl, hr⟩ := prodS_shape h.1
    simp [pureDs, pureD, rowI_pure hr, prodS_pure h.2]
theorem prodS_sortable {xs : List D} (h : xs.all prodS = true) : sortable xs = true := by
  simp only [sortable, Bool.and_eq_true, List.all_eq_true]
  refine ⟨fun x hx => ?_, fun a ha b hb => ?_⟩
  · obtain ⟨rs, i, rfl, hr⟩ := prodS_shape (List.all_eq_true.mp h x hx)
    simp [pureD, pureDs, rowI_pure hr]
  · obtain ⟨rs, i, rfl, hr⟩ := prodS_shape (List.all_eq_true.mp h a ha)
    obtain ⟨rs', i', rfl, hr'⟩ := prodS_shape (List.all_eq_true.mp h b hb)
    simp only [toPy, toPys, comp, compAll, rowI_comp hr hr', ite_self]
theorem mov_prodS {ns : List D} (hn : numI ns) {p : D} (h : goodP ns.length p) (hb : hasB ns p = true) : prodS (movD ns p) = true := by
  obtain ⟨rs, i, rfl, _, hr⟩ := h
  simp only [movD, prodS]
  exact sort_all (mv_rowI hn hr hb)
theorem kb_prodS {ns ps : List D} (hn : numI ns) (h : ∀ p ∈ ps, goodP ns.length p) : (kb ns ps).all prodS = true := by
  unfold kb
  simp only [List.all_map, List.all_eq_true, Function.comp_apply]
  intro p hp
  obtain ⟨h1, h2⟩ := List.mem_filter.mp hp
  exact mov_prodS hn (h p h1) h2
def b21b : DenS := sIf (tGc (tVal (xCallF bAll (aCons (xLc (iAny (xVar 3)) (.tp [.nm 5, .nm 6]) (tYesD) (xGc (xBin opIsNot (xBin opIx (xVar 0) (xVar 5)) (xLit .non))) [5, 6]) (aNil))))) (sExpr (xGc (xMeth [("list", fAppend)] (xVar 2) (aCons (xTup (aCons (xCallF bTuple (aCons (xCallF bSorted (aCons (xLc (iAny (xVar 3)) (.tp [.nm 5, .nm 7]) (tYesD) (xGc (xTup (aCons (xBin opIx (xVar 0) (xVar 5)) (aCons (xVar 7) (aNil))))) [5, 7]) (aNil))) (aNil))) (aCons (xVar 4) (aNil)))) (aNil))))) (sNil)
theorem turn21 (fe : FE) (L : Nat) (ns rs acc : List D) (i : Int) (o1 o5 o6 o7 : Option D) (M : Mem) (hL : M[L]? = some (.lst acc)) (hcl : ClM M) (hn : numI ns) (hp : goodP ns.length (.tup [.tup rs, .int i])) (hacc : acc.length < 10000) :
    b21b fe [some (.tup ns), o1, some (.loc L), some (.tup rs), some (.int i), o5, o6, o7] M = .next [some (.tup ns), o1, some (.loc L), some (.tup rs), some (.int i), o5, o6, o7] (if hasB ns (.tup [.tup rs, .int i]) = true then M.set L (.lst (acc ++ [movD ns (.tup [.tup rs, .int i])])) else M) := by
  have z := sizeLine_is
  have hLt : L < M.length := (List.getElem?_eq_some_iff.mp hL).1
  obtain ⟨rs', i', e, hl, hr⟩ := hp
  simp only [D.tup.injEq, List.cons.injEq, D.int.injEq, and_true] at e
  obtain ⟨rfl, rfl⟩ := e
  have l1 := xLc_bools (fe := fe) (ρ := [some (.tup ns), o1, some (.loc L), some (.tup rs), some (.int i), o5, o6, o7]) (m := M) (m1 := M) (it := iAny (xVar 3)) (p := .tp [.nm 5, .nm 6]) (own := [5, 6]) (e := xGc (xBin opIsNot (xBin opIx (xVar 0) (xVar 5)) (xLit .non))) (fun d => !decide (atD ns d = .non)) (xs := rs) (w := [])
    (by simp) rfl (by omega) fun x hx => by
      obtain ⟨r, t, rfl, hr'⟩ := hr x hx
      refine ⟨_, rfl, ?_⟩
      simp [wipeE, opIx, at_get (t := t) hr', opIsNot]
  cases c : hasB ns (.tup [.tup rs, .int i]) with
  | false =>
    have c' : (rs.all fun d => !decide (atD ns d = .non)) = false := c
    simp only [c', b21b, sIf_ev, tGc_ev, tVal_ev, xCallF_ev, aCons_ev, aNil_ev, l1, Out.bind_ok, bAll_end, Out.ofO_some, truth]
    simp
  | true =>
    have c' : (rs.all fun d => !decide (atD ns d = .non)) = true := c
    have l2 := xLc_map (fe := fe) (ρ := [some (.tup ns), o1, some (.loc L), some (.tup rs), some (.int i), o5, o6, o7]) (m := M) (m1 := M) (it := iAny (xVar 3)) (p := .tp [.nm 5, .nm 7]) (own := [5, 7]) (e := xGc (xTup (aCons (xBin opIx (xVar 0) (xVar 5)) (aCons (xVar 7) (aNil))))) (mvR ns) (xs := rs) (w := [])
      (by simp) rfl (by omega) fun x hx => by
        obtain ⟨r, t, rfl, hr'⟩ := hr x hx
        refine ⟨_, rfl, ?_⟩
        simp [wipeE, opIx, at_get (t := t) hr', mvR, sndD]
    have hri := mv_rowI hn hr c'
    have hs := bSorted_end (m := M) (rowI_sortable hri) (by simp; omega)
    have hL2 : ∀ x, (M ++ x)[L]? = some (.lst acc) := fun x => by rw [List.getElem?_append_left hLt]; exact hL
    have ha : fAppend (.loc L) [movD ns (.tup [.tup rs, .int i])] (M ++ [.lst (rs.map (mvR ns)), .lst (sortD (rs.map (mvR ns)))]) = some (.non, M.set L (.lst (acc ++ [movD ns (.tup [.tup rs, .int i])])) ++ [.lst (rs.map (mvR ns)), .lst (sortD (rs.map (mvR ns)))]) := by
      simp only [fAppend, hL2, set_app_len hLt]
      rw [if_pos (by omega)]
    have hy : closed M.length (movD ns (.tup [.tup rs, .int i])) = true := by simp [movD, closed, closeds, rowI_closed (sort_all hri)]
    have hg := gcO_new (M := M) (M' := M.set L (.lst (acc ++ [movD ns (.tup [.tup rs, .int i])]))) (r := .non) (by simp) (hcl.put (by
      have := hcl.get hL
      simp only [closedO, closeds_all, List.all_append, Bool.and_eq_true] at this ⊢
      exact ⟨this, by simp [hy]⟩) L) [.lst (rs.map (mvR ns)), .lst (sortD (rs.map (mvR ns)))] rfl
    simp only [movD] at ha hg
    simp only [b21b, sIf_ev, tGc_ev, tVal_ev, xCallF_ev, aCons_ev, aNil_ev, l1, Out.bind_ok, bAll_end, Out.ofO_some, truth, c', gcB_app, ofE_ok, if_true, sExpr_ev, xGc_ev, xMeth_ev, xVar_ev, List.getElem?_cons_succ, List.getElem?_cons_zero, tyD, hL, List.lookup, xTup_ev, l2, hs, bTuple_end2, movD]
    simp only [BEq.rfl, bTuple_end2, Out.ofO_some, Out.bind_ok, List.length_cons, List.length_nil, le_sz2, if_true, ha, hg, ofE_ok, Nat.zero_add, Nat.reduceAdd]
theorem s21 (n : Nat) (ns ps : List D) (m : Mem) (hcl : ClM m) (hn : numI ns) (hp : ∀ p ∈ ps, goodP ns.length p) (hl : ps.length ≤ 1000) : run ds (n + 1) 21 [.tup ns, .tup ps] m = .ok (.tup (sortD (kb ns ps))) m := by
  have z := sizeLine_is
  have hset : ∀ x y : O, (m ++ [x]).set m.length y = m ++ [y] := fun x y => by simp
  obtain ⟨ρ', m', h1, i1⟩ := sFor_inv (fe := run ds n) (ρ := [some (.tup ns), some (.tup ps), some (.loc m.length), none, none, none, none, none]) (m := m ++ [.lst []]) (m1 := m ++ [.lst []]) (it := iAny (xVar 1)) (p := .tp [.nm 3, .nm 4]) (b := b21b) (w := []) (xs := ps)
    (fun rest ρ mm => ∃ done o3 o4 o5 o6 o7, ρ = [some (.tup ns), some (.tup ps), some (.loc m.length), o3, o4, o5, o6, o7] ∧ mm = m ++ [.lst (kb ns done)] ∧ done ++ rest = ps)
    (by simp) (fun _ _ _ _ => rfl) ⟨[], none, none, none, none, none, rfl, rfl, rfl⟩ (by
      rintro x rest ρ mm ⟨done, o3, o4, o5, o6, o7, rfl, rfl, e⟩
      have hx : x ∈ ps := by rw [← e]; simp
      have hd : ∀ p ∈ done, goodP ns.length p := fun p h => hp p (by rw [← e]; simp [h])
      have hg := hp x hx
      obtain ⟨rs, i, rfl, _⟩ := id hg
      have hkl := kb_len ns done
      have hdl : done.length ≤ ps.length := by rw [← e]; simp
      have hc0 : ClM (m ++ [.lst (kb ns done)]) := by
        intro o ho
        rcases List.mem_append.mp ho with ho | ho
        · exact closedO_mono (by simp) o (hcl o ho)
        · rw [List.mem_singleton.mp ho]
          exact prodS_closed (kb_prodS hn hd)
      have ht := turn21 (run ds n) m.length ns rs (kb ns done) i (some (.tup ps)) o5 o6 o7 (m ++ [.lst (kb ns done)]) (by simp) hc0 hn hg (by omega)
      refine ⟨_, _, _, rfl, .inl ht, done ++ [.tup [.tup rs, .int i]], _, _, _, _, _, rfl, ?_, by simp [e]⟩
      rw [kb_snoc]
      split
      · rw [hset]
      · rfl)
  obtain ⟨done, o3, o4, o5, o6, o7, rfl, rfl, e⟩ := i1
  rw [List.append_nil] at e
  subst e
  have hkp := kb_prodS hn hp
  have hkl := kb_len ns done
  have hbs : bSorted [.loc m.length] (m ++ [.lst (kb ns done)]) = some (.loc (m.length + 1), m ++ [.lst (kb ns done), .lst (sortD (kb ns done))]) := bSorted_end (prodS_sortable hkp) (by omega)
  have hct : ∀ k, closed k (.tup (sortD (kb ns done))) = true := fun k => by simp [closed, prodS_closed (sort_all hkp)]
  have ed : d21 = sSeq (sSet 2 (xGc (xLst (aNil)))) (sSeq (sFor (iAny (xVar 1)) (.tp [.nm 3, .nm 4]) b21b) (sRet (xGc (xCallF bTuple (aCons (xCallF bSorted (aCons (xVar 2) (aNil))) (aNil)))))) := rfl
  have g0 : gcO m (.ok (.loc m.length) (m ++ [.lst []])) = .ok (.loc m.length) (m ++ [.lst []]) := by simp [gcO, closed]
  rw [r21, ed]
  simp [g0, h1, hbs, hct]
theorem s22 (n : Nat) (xs a b ps : List D) (m : Mem) (hcl : ClM m) (hx : xs.all rowB = true) (hlx : xs.length ≤ 40) (ht : tabB xs = true) (hg : goesB xs a b = true) (hla : a.length ≤ 100) (hlb : b.length ≤ 100) (hp : ∀ p ∈ ps, goodP xs.length p) (hl : ps.length ≤ 1000) (hs : sumB xs.length ps = true) :
    run ds (n + 7) 22 [tab xs, chg a b, .tup ps] m = .ok (.tup (sortD (kb (xs.map (numD (chgBy xs a b))) ps))) m := by
  have z := sizeLine_is
  obtain ⟨ha, hb⟩ := goes_rows hg
  have h7 := fun m => s7 (n + 2) xs m (rows_known hx) (by omega)
  simp only [ht, if_true] at h7
  have h14 := fun m => s14 n xs a b m hx (by omega) (rows_known ha) (rows_known hb) (by omega) (by omega)
  simp only [hg, if_true] at h14
  have h19 := fun m => s19 (n + 4) xs a b m hx (by omega) ha hb (by omega)
  have hpi : ps.all prodI = true := List.all_eq_true.mpr fun p h => by
    obtain ⟨rs, i, rfl, h1, h2⟩ := hp p h
    simp only [prodI, Bool.and_eq_true, decide_eq_true_eq]
    refine ⟨List.all_eq_true.mpr fun d hd => ?_, h1⟩
    obtain ⟨r, t, rfl, _⟩ := h2 d hd
    rfl
  have h9 := fun m => s9 (n + 4) xs.length ps m hlx hpi (by omega)
  rw [hs] at h9
  have hn : numI (xs.map (numD (chgBy xs a b))) := fun d hd => by
    obtain ⟨y, _, rfl⟩ := List.mem_map.mp hd
    unfold numD
    split
    · exact .inr ⟨_, rfl⟩
    · exact .inl rfl
  have h21 := s21 (n + 5) (xs.map (numD (chgBy xs a b))) ps m hcl hn (by simpa using hp) hl
  simp [r22, d22, h7, h9, truth, opIx, bLen, h14, h19, h21]
end K60
end Mn
set_option Elab.async false
set_option linter.all false
set_option maxRecDepth 100000
set_option maxHeartbeats 1000000
namespace Mn
namespace K60
open PySem
/-- the word for an error -/
def word (c : Nat) (p : Option D) : Option D := if c = 1 then some (.str "tables") else if c = 3 then some (.str "sum") else if c = 4 then p else if c = 5 then some (.str "none") else none
theorem of_all : ∀ k ∈ [1, 2, 3, 4, 5, 6], ∀ c ∈ [1, 3, 4, 5], tx.of k c = decide (k = c) := by decide +kernel
theorem word_h (fe : FE) (c : Nat) (p : Option D) (w : D) (ρ : Env) (m : Mem) (h : word c p = some w) (hρ : ρ.length = 3) : handleD fe c p ρ m [.plain (tx.of 1) (sRet (xLit (.str "tables"))), .plain (tx.of 2) (sRet (xLit (.str "question"))), .plain (tx.of 3) (sRet (xLit (.str "sum"))), .field (tx.of 4) 2, .plain (tx.of 5) (sRet (xLit (.str "none"))), .plain (tx.of 6) (sRet (xLit (.str "far")))] = .ret w m := by
  have hc : c ∈ [1, 3, 4, 5] := by
    unfold word at h
    repeat' split at h
    all_goals first | (cases h; done) | simp_all
  have h1 := of_all 1 (by simp) c hc
  have h2 := of_all 2 (by simp) c hc
  have h3 := of_all 3 (by simp) c hc
  have h4 := of_all 4 (by simp) c hc
  have h5 := of_all 5 (by simp) c hc
  simp only [List.mem_cons, List.not_mem_nil, or_false] at hc
  rcases hc with rfl | rfl | rfl | rfl
  · simp [word] at h
    simp [handleD, h1, noXS, h]
  · simp [word] at h
    simp [handleD, h1, h2, h3, noXS, h]
  · simp [word] at h
    simp [handleD, h1, h2, h3, h4, h, hρ]
  · simp [word] at h
    simp [handleD, h1, h2, h3, h4, h5, noXS, h]
theorem s32_1 (n j : Nat) (x : D) (m : Mem) (c : Nat) (p : Option D) (w : D) (h : run ds n j [x] m = .exc c p m) (hw : word c p = some w) : run ds (n + 1) 32 [.fn j, .tup [x]] m = .ok w m := by
  have hh := fun ρ hρ => word_h (run ds n) c p w ρ m hw hρ
  simp [r32, d32, sTry, bLen, opEq, eqM, pureD, eqv, opIx, h, hh]
theorem s32_2 (n j : Nat) (x y : D) (m : Mem) (c : Nat) (p : Option D) (w : D) (h : run ds n j [x, y] m = .exc c p m) (hw : word c p = some w) : run ds (n + 1) 32 [.fn j, .tup [x, y]] m = .ok w m := by
  have hh := fun ρ hρ => word_h (run ds n) c p w ρ m hw hρ
  simp [r32, d32, sTry, bLen, opEq, eqM, pureD, eqv, opIx, h, hh]
theorem s32_3 (n j : Nat) (x y z : D) (m : Mem) (c : Nat) (p : Option D) (w : D) (h : run ds n j [x, y, z] m = .exc c p m) (hw : word c p = some w) : run ds (n + 1) 32 [.fn j, .tup [x, y, z]] m = .ok w m := by
  have hh := fun ρ hρ => word_h (run ds n) c p w ρ m hw hρ
  simp [r32, d32, sTry, bLen, opEq, eqM, pureD, eqv, opIx, h, hh]
end K60
end Mn
set_option Elab.async false
set_option linter.all false
set_option maxRecDepth 100000
set_option maxHeartbeats 1000000
namespace Mn
namespace K60
open PySem
theorem pure_lay {d : D} (h : pureD 12 d = true) : (toPy d).canLay0 = true := (rd_ok (m := []) 12 _ _ (pure_rd 12 d h)).1
theorem pure_eqv {a b : D} (ha : pureD 12 a = true) (hb : pureD 12 b = true) (na : noBl a = true) (nb : noBl b = true) (h : PyData.eqv (toPy a) (toPy b) = true) : a = b := by
  have e := eqv_py 12 12 a b ha hb
  rw [← e, eqv_eq a b na nb] at h
  exact of_decide_eq_true h
theorem rowI_noBl : ∀ {xs : List D}, xs.all rowI = true → noBls xs = true
  | [], _ => rfl
  | x :: xs, h => by
    simp only [List.all_cons, Bool.and_eq_true] at h
    obtain ⟨r, t, rfl⟩ := rowI_shape h.1
    simp [noBls, noBl, rowI_noBl h.2]
theorem rowI_keyNs : ∀ {xs : List D}, xs.all rowI = true → ∃ ks, keyNs xs = some ks ∧ NestedKey.depthAll ks ≤ 1
  | [], _ => ⟨[], rfl, by simp [NestedKey.depthAll]⟩
  | x :: xs, h => by
    simp only [List.all_cons, Bool.and_eq_true] at h
    obtain ⟨r, t, rfl⟩ := rowI_shape h.1
    obtain ⟨ks, h1, h2⟩ := rowI_keyNs h.2
    exact ⟨.tup [.num r, .num t] :: ks, by simp [keyNs, keyN, h1], by simp [NestedKey.depthAll, NestedKey.depth]; omega⟩
theorem rowI_keyT {xs : List D} (h : xs.all rowI = true) : (keyT (.tup xs)).isSome = true := by
  obtain ⟨ks, h1, h2⟩ := rowI_keyNs h
  have : NestedKey.depth (.tup ks) ≤ 8 := by simp [NestedKey.depth]; omega
  simp [keyT, keyN, h1, this]
/-- the numbers of rows with how often -/
def pkOk (k : Nat) (pk : List (D × D)) : Prop := (pk.map (·.1)).Nodup ∧ ∀ p ∈ pk, ∃ (r : Nat) (t : Int), p = (.int r, .int t) ∧ r < k ∧ 1 ≤ t
theorem pk_kind {k : Nat} {pk : List (D × D)} (h : pkOk k pk) (i : Int) : kindOk pk (.int i) = true := by
  have : (pk.all fun p => (keyM p.1).isSome) = true := List.all_eq_true.mpr fun p hp => by
    obtain ⟨r, t, rfl, _⟩ := h.2 p hp
    simp [keyM]
  unfold kindOk
  rw [this]
  simp [keyM]
theorem pk_rowI {k : Nat} {pk : List (D × D)} (h : pkOk k pk) : (pk.map pairD).all rowI = true := by
  simp only [List.all_map, List.all_eq_true, Function.comp_apply]
  intro p hp
  obtain ⟨r, t, rfl, _⟩ := h.2 p hp
  rfl
def keyG (k : Nat) (d : D) : Prop := ∃ rs, d = .tup rs ∧ rs.length ≤ 3 ∧ rs.all rowI = true ∧ prodOk k (.tup [.tup rs, .int 1]) = true ∧ ∀ d ∈ rs, ∃ (r : Nat) (t : Int), d = .tup [.int r, .int t] ∧ r < k
theorem pk_key {k : Nat} {pk : List (D × D)} (h : pkOk k pk) (hl : pk.length ≤ 3) : keyG k (.tup (sortD (pk.map pairD))) := by
  have hr := pk_rowI h
  have hi : ∀ p ∈ pk, ∃ i, p.1 = .int i := fun p hp => by
    obtain ⟨r, t, rfl, _⟩ := h.2 p hp
    exact ⟨_, rfl⟩
  obtain ⟨qs, e1, e2, e3⟩ := sort_fst (ps := pk) (fun p hp => by
    obtain ⟨i, e⟩ := hi p hp
    rw [e]; rfl) (fun p hp q hq => by
    obtain ⟨i, e⟩ := hi p hp
    obtain ⟨j, e'⟩ := hi q hq
    rw [e, e']; rfl) (fun p hp q hq c => by
    obtain ⟨i, e⟩ := hi p hp
    obtain ⟨j, e'⟩ := hi q hq
    rw [e, e'] at c ⊢
    exact pure_eqv rfl rfl rfl rfl c) h.1
  have hq : ∀ p ∈ qs, ∃ (r : Nat) (t : Int), p = (.int r, .int t) ∧ r < k ∧ 1 ≤ t := fun p hp => h.2 p (e2.mem_iff.mp hp)
  refine ⟨_, rfl, by rw [sort_len]; simpa using hl, sort_all hr, ?_, ?_⟩
  · rw [e1]
    have hf : (qs.map pairD).map fstD = qs.map (·.1) := by
      rw [List.map_map]
      exact List.map_congr_left fun p _ => rfl
    simp only [prodOk, Bool.and_eq_true]
    refine ⟨⟨?_, ?_⟩, by rw [hf]; exact pairwise_ascD e3⟩
    · simp only [List.all_map, List.all_eq_true, Function.comp_apply]
      intro p hp
      obtain ⟨r, t, rfl, _, ht⟩ := hq p hp
      simp [pairD, cntB, ht]
    · simp only [List.all_map, List.all_eq_true, Function.comp_apply]
      intro p hp
      obtain ⟨r, t, rfl, hr, ht⟩ := hq p hp
      simp [pairD, rowOk]
      omega
  · intro d hd
    obtain ⟨p, hp, rfl⟩ := List.mem_map.mp (sort_mem.mp hd)
    obtain ⟨r, t, rfl, h1, _⟩ := h.2 p hp
    exact ⟨r, t, rfl, h1⟩
def fkOk (k : Nat) (kvs : List (D × D)) : Prop := (kvs.map (·.1)).Nodup ∧ ∀ p ∈ kvs, keyG k p.1 ∧ ∃ (t : Int), p.2 = .int t ∧ 1 ≤ t
theorem fk_kind {k : Nat} {kvs : List (D × D)} (h : fkOk k kvs) {d : D} (hd : keyG k d) : kindOk kvs d = true := by
  have : (kvs.all fun p => (keyT p.1).isSome) = true := List.all_eq_true.mpr fun p hp => by
    obtain ⟨⟨rs, e, _, hr, _⟩, _⟩ := h.2 p hp
    rw [e]
    exact rowI_keyT hr
  obtain ⟨rs, rfl, _, hr, _⟩ := hd
  unfold kindOk
  rw [this, rowI_keyT hr]
  simp
theorem fk_put {k : Nat} {kvs : List (D × D)} (h : fkOk k kvs) {d : D} {t : Int} (hd : keyG k d) (ht : 1 ≤ t) : fkOk k (dPut kvs d (.int t)) := ⟨dPut_nodup h.1, dPut_all h.2 ⟨hd, t, rfl, ht⟩⟩
theorem fk_sum {k : Nat} {kvs : List (D × D)} (h : fkOk k kvs) (hl : kvs.length ≤ 3) : (kvs.map pairD).all prodS = true ∧ sumB k (sortD (kvs.map pairD)) = true ∧ ∀ p ∈ sortD (kvs.map pairD), goodP k p := by
  have hg : ∀ p ∈ kvs, pureD 12 p.1 = true ∧ noBl p.1 = true := fun p hp => by
    obtain ⟨⟨rs, e, _, hr, _⟩, _⟩ := h.2 p hp
    rw [e]
    exact ⟨by simp [pureD, rowI_pure hr], by simp [noBl, rowI_noBl hr]⟩
  obtain ⟨qs, e1, e2, e3⟩ := sort_fst (ps := kvs) (fun p hp => pure_lay (hg p hp).1) (fun p hp q hq => by
    obtain ⟨⟨rs, e, _, hr, _⟩, _⟩ := h.2 p hp
    obtain ⟨⟨rs', e', _, hr', _⟩, _⟩ := h.2 q hq
    rw [e, e']
    simp [toPy, comp, rowI_comp hr hr']) (fun p hp q hq c => pure_eqv (hg p hp).1 (hg q hq).1 (hg p hp).2 (hg q hq).2 c) h.1
  have hq : ∀ p ∈ qs, keyG k p.1 ∧ ∃ (t : Int), p.2 = .int t ∧ 1 ≤ t := fun p hp => h.2 p (e2.mem_iff.mp hp)
  refine ⟨?_, ?_, ?_⟩
  · simp only [List.all_map, List.all_eq_true, Function.comp_apply]
    intro p hp
    obtain ⟨⟨rs, e, _, hr, _⟩, t, e', _⟩ := h.2 p hp
    simp only [pairD, e, e', prodS]
    exact hr
  · rw [e1]
    have hf : (qs.map pairD).map fstD = qs.map (·.1) := by
      rw [List.map_map]
      exact List.map_congr_left fun p _ => rfl
    have hl' := e2.length_eq
    simp only [sumB, Bool.and_eq_true, decide_eq_true_eq]
    refine ⟨⟨⟨?_, by rw [List.length_map]; omega⟩, ?_⟩, by rw [hf]; exact pairwise_ascD e3⟩
    · simp only [List.all_map, List.all_eq_true, Function.comp_apply]
      intro p hp
      obtain ⟨_, t, e', ht⟩ := hq p hp
      simp [pairD, e', cntB, ht]
    · simp only [List.all_map, List.all_eq_true, Function.comp_apply]
      intro p hp
      obtain ⟨⟨rs, e, _, _, ho, _⟩, t, e', ht⟩ := hq p hp
      simp only [pairD, e, prodOk] at ho ⊢
      exact ho
  · intro d hd
    obtain ⟨p, hp, rfl⟩ := List.mem_map.mp (sort_mem.mp hd)
    obtain ⟨⟨rs, e, hl2, _, _, hr⟩, t, e', ht⟩ := h.2 p hp
    exact ⟨rs, t, by simp [pairD, e, e'], by omega, hr⟩
theorem closed_keyG {k n : Nat} {d : D} (h : keyG k d) : closed n d = true := by
  obtain ⟨rs, rfl, _, hr, _⟩ := h
  simp [closed, rowI_closed hr]
def b33i : DenS := sSub (xVar 4) (xGc (xCall 24 (aCons (xVar 0) (aCons (xVar 1) (aNil))))) (xGc (xBin opAdd (xLit (.int 1)) (xCall 24 (aCons (xVar 0) (aCons (xLit (.int 3)) (aNil))))))
theorem in33 (n l : Nat) (a b c : Int) (many : Nat) (M : Mem) (o2 o3 o5 : Option D) (hm : M[l]? = some (bag a b c)) (h1 : 1 ≤ many) (h2 : many ≤ 1000) :
    ∃ pk a' b' o5', pkOk many pk ∧ pk.length ≤ 3 ∧ sFor (iRange1 (aCons (xBin opAdd (xLit (.int 1)) (xCall 24 (aCons (xVar 0) (aCons (xLit (.int 3)) (aNil))))) (aNil))) (.nm 5) b33i (run ds (n + 1)) [some (.loc l), some (.int many), o2, o3, some (.loc M.length), o5] (M ++ [.dict [] false]) = .next [some (.loc l), some (.int many), o2, o3, some (.loc M.length), o5'] (M.set l (bag a' b' c) ++ [.dict pk false]) := by
  have z := sizeLine_is
  have hlt : l < M.length := (List.getElem?_eq_some_iff.mp hm).1
  have hst : ∀ a b x, (M.set l (bag a b c) ++ x)[l]? = some (bag a b c) := fun a b x => by
    rw [List.getElem?_append_left (by simpa using hlt)]; simp [hlt]
  have hss : ∀ a b a' b' x, (M.set l (bag a b c) ++ x).set l (bag a' b' c) = M.set l (bag a' b' c) ++ x := fun a b a' b' x => by
    rw [set_app_len (by simpa using hlt), List.set_set]
  have hen : ∀ a b o, (M.set l (bag a b c) ++ [o])[M.length]? = some o := fun a b o => by
    rw [List.getElem?_append_right (by simp)]; simp
  have hes : ∀ a b o o', (M.set l (bag a b c) ++ [o]).set M.length o' = M.set l (bag a b c) ++ [o'] := fun a b o o' => by
    have : (M.set l (bag a b c)).length = M.length := by simp
    rw [← this]
    simp
  obtain ⟨r, a1, b1, hr0, hr1, h24⟩ := s24 n l a b c 3 (M ++ [.dict [] false]) (by rw [List.getElem?_append_left hlt]; exact hm) (by omega) (by omega)
  obtain ⟨k, rfl⟩ := Int.eq_ofNat_of_zero_le hr0
  rw [set_app_len hlt] at h24
  obtain ⟨ρ', m', hf, i1⟩ := sFor_inv (fe := run ds (n + 1)) (ρ := [some (.loc l), some (.int many), o2, o3, some (.loc M.length), o5]) (m := M ++ [.dict [] false]) (m1 := M.set l (bag a1 b1 c) ++ [.dict [] false]) (it := iRange1 (aCons (xBin opAdd (xLit (.int 1)) (xCall 24 (aCons (xVar 0) (aCons (xLit (.int 3)) (aNil))))) (aNil))) (p := .nm 5) (b := b33i) (w := []) (xs := rangeD 0 (1 + k))
    (fun rest ρ mm => ∃ a' b' pk o5, ρ = [some (.loc l), some (.int many), o2, o3, some (.loc M.length), o5] ∧ mm = M.set l (bag a' b' c) ++ [.dict pk false] ∧ pkOk many pk ∧ pk.length + rest.length ≤ 3)
    (irange1_ev (by omega) (by simp [opAdd, h24])) (fun _ _ _ _ => rfl) ⟨a1, b1, [], o5, rfl, rfl, ⟨by simp, by simp⟩, by rw [rangeD_len]; simp; omega⟩ (by
      rintro x rest ρ mm ⟨a', b', pk, o5, rfl, rfl, hpk, hlen⟩
      obtain ⟨t, a2, b2, ht0, ht1, hd1⟩ := s24 n l a' b' c 3 (M.set l (bag a' b' c) ++ [.dict pk false]) (hst _ _ _) (by omega) (by omega)
      rw [hss] at hd1
      obtain ⟨r, a3, b3, hr0, hr1, hd2⟩ := s24 n l a2 b2 c many (M.set l (bag a2 b2 c) ++ [.dict pk false]) (hst _ _ _) (by omega) (by omega)
      rw [hss] at hd2
      obtain ⟨r, rfl⟩ := Int.eq_ofNat_of_zero_le hr0
      have g1 : gcO (M.set l (bag a' b' c) ++ [.dict pk false]) (.ok (.int (1 + t)) (M.set l (bag a2 b2 c) ++ [.dict pk false])) = .ok (.int (1 + t)) (M.set l (bag a2 b2 c) ++ [.dict pk false]) := gcO_len (by simp)
      have g2 : gcO (M.set l (bag a2 b2 c) ++ [.dict pk false]) (.ok (.int r) (M.set l (bag a3 b3 c) ++ [.dict pk false])) = .ok (.int r) (M.set l (bag a3 b3 c) ++ [.dict pk false]) := gcO_len (by simp)
      have hpl := dPut_len pk (.int r) (.int (1 + t))
      simp only [List.length_cons] at hlen
      have hs : setD (.loc M.length) (.int r) (.int (1 + t)) (M.set l (bag a3 b3 c) ++ [.dict pk false]) = some (M.set l (bag a3 b3 c) ++ [.dict (dPut pk (.int r) (.int (1 + t))) false]) := by
        simp only [setD, hen, pk_kind hpk, true_and, hes]
        rw [if_pos (by omega)]
      refine ⟨_, [some (.loc l), some (.int many), o2, o3, some (.loc M.length), some x], M.set l (bag a3 b3 c) ++ [.dict (dPut pk (.int r) (.int (1 + t))) false], rfl, .inl (by simp [b33i, sSub, opAdd, hd1, g1, hd2, g2, hs]), a3, b3, _, some x, rfl, rfl, ⟨dPut_nodup hpk.1, dPut_all hpk.2 ⟨r, 1 + t, rfl, by omega, by omega⟩⟩, by omega⟩)
  obtain ⟨a', b', pk, o5', rfl, rfl, hpk, hlen⟩ := i1
  exact ⟨pk, a', b', o5', hpk, by simpa using hlen, hf⟩
theorem ClM.app {m : Mem} (h : ClM m) {o : O} (ho : closedO (m.length + 1) o = true) : ClM (m ++ [o]) := by
  intro o' h'
  rcases List.mem_append.mp h' with h' | h'
  · exact closedO_mono (by simp) o' (h o' h')
  · rw [List.mem_singleton.mp h', List.length_append]
    exact ho
theorem pk_closed {k n : Nat} {pk : List (D × D)} {lk : Bool} (h : pkOk k pk) : closedO n (.dict pk lk) = true := by
  simp only [closedO, List.all_eq_true, Bool.and_eq_true]
  intro p hp
  obtain ⟨r, t, rfl, _⟩ := h.2 p hp
  exact ⟨rfl, rfl⟩
theorem fk_closed {k n : Nat} {kvs : List (D × D)} {lk : Bool} (h : fkOk k kvs) : closedO n (.dict kvs lk) = true := by
  simp only [closedO, List.all_eq_true, Bool.and_eq_true]
  intro p hp
  obtain ⟨h1, t, e, _⟩ := h.2 p hp
  exact ⟨closed_keyG h1, by rw [e]; rfl⟩
theorem sortItems_of {l : Nat} {kvs : List (D × D)} {lk : Bool} {m : Mem} (h : m[l]? = some (.dict kvs lk)) (hs : sortable (kvs.map pairD) = true) (hl : kvs.length ≤ 1000) : bSortItems [.loc l] m = some (.loc m.length, m ++ [.lst (sortD (kvs.map pairD))]) := by
  have z := sizeLine_is
  simp only [bSortItems, h, hs, true_and]
  rw [if_pos (by omega)]
def b33b : DenS := sSeq (sSet 4 (xGc (xEmpty))) (sSeq (sFor (iRange1 (aCons (xBin opAdd (xLit (.int 1)) (xCall 24 (aCons (xVar 0) (aCons (xLit (.int 3)) (aNil))))) (aNil))) (.nm 5) b33i) (sSub (xVar 2) (xGc (xCallF bTuple (aCons (xItemsF bSortItems (xVar 4)) (aNil)))) (xGc (xBin opAdd (xLit (.int 1)) (xCall 24 (aCons (xVar 0) (aCons (xLit (.int 4)) (aNil))))))))
theorem turn33 (n l F : Nat) (a b c : Int) (many : Nat) (M : Mem) (kvs : List (D × D)) (o3 o4 o5 : Option D) (hm : M[l]? = some (bag a b c)) (hF : M[F]? = some (.dict kvs false)) (hFl : F ≠ l) (hk : fkOk many kvs) (hl : kvs.length ≤ 100) (h1 : 1 ≤ many) (h2 : many ≤ 1000) :
    ∃ kvs' pk a' b' o4' o5', fkOk many kvs' ∧ kvs'.length ≤ kvs.length + 1 ∧ pkOk many pk ∧ b33b (run ds (n + 1)) [some (.loc l), some (.int many), some (.loc F), o3, o4, o5] M = .next [some (.loc l), some (.int many), some (.loc F), o3, o4', o5'] ((M.set l (bag a' b' c)).set F (.dict kvs' false) ++ [.dict pk false]) := by
  have z := sizeLine_is
  have hlt : l < M.length := (List.getElem?_eq_some_iff.mp hm).1
  have hFt : F < M.length := (List.getElem?_eq_some_iff.mp hF).1
  obtain ⟨pk, a1, b1, o5', hpk, hpl, hin⟩ := in33 n l a b c many M (some (.loc F)) o3 o5 hm h1 h2
  have hst : ∀ a b x, (M.set l (bag a b c) ++ x)[l]? = some (bag a b c) := fun a b x => by
    rw [List.getElem?_append_left (by simpa using hlt)]; simp [hlt]
  have hss : ∀ a b a' b' x, (M.set l (bag a b c) ++ x).set l (bag a' b' c) = M.set l (bag a' b' c) ++ x := fun a b a' b' x => by
    rw [set_app_len (by simpa using hlt), List.set_set]
  have hen : ∀ a b o, (M.set l (bag a b c) ++ [o])[M.length]? = some o := fun a b o => by
    rw [List.getElem?_append_right (by simp)]; simp
  have hfn : ∀ a b x, (M.set l (bag a b c) ++ x)[F]? = some (.dict kvs false) := fun a b x => by
    rw [List.getElem?_append_left (by simpa using hFt), List.getElem?_set_ne (Ne.symm hFl)]; exact hF
  obtain ⟨t, a2, b2, ht0, ht1, hd1⟩ := s24 n l a1 b1 c 4 (M.set l (bag a1 b1 c) ++ [.dict pk false]) (hst _ _ _) (by omega) (by omega)
  rw [hss] at hd1
  have g1 : gcO (M.set l (bag a1 b1 c) ++ [.dict pk false]) (.ok (.int (1 + t)) (M.set l (bag a2 b2 c) ++ [.dict pk false])) = .ok (.int (1 + t)) (M.set l (bag a2 b2 c) ++ [.dict pk false]) := gcO_len (by simp)
  have g0 : gcO M (.ok (.loc M.length) (M ++ [.dict [] false])) = .ok (.loc M.length) (M ++ [.dict [] false]) := by simp [gcO, closed]
  have hkey := pk_key hpk hpl
  have hpr := pk_rowI hpk
  have hsi := sortItems_of (hen a2 b2 (.dict pk false)) (rowI_sortable hpr) (by omega)
  have hbt := bTuple_end (m := M.set l (bag a2 b2 c) ++ [.dict pk false]) (xs := sortD (pk.map pairD))
  have g2 : gcO (M.set l (bag a2 b2 c) ++ [.dict pk false]) (.ok (.tup (sortD (pk.map pairD))) (M.set l (bag a2 b2 c) ++ [.dict pk false] ++ [.lst (sortD (pk.map pairD))])) = .ok (.tup (sortD (pk.map pairD))) (M.set l (bag a2 b2 c) ++ [.dict pk false]) := gcO_app _ (closed_keyG hkey)
  have hdl := dPut_len kvs (.tup (sortD (pk.map pairD))) (.int (1 + t))
  have hs : setD (.loc F) (.tup (sortD (pk.map pairD))) (.int (1 + t)) (M.set l (bag a2 b2 c) ++ [.dict pk false]) = some ((M.set l (bag a2 b2 c)).set F (.dict (dPut kvs (.tup (sortD (pk.map pairD))) (.int (1 + t))) false) ++ [.dict pk false]) := by
    simp only [setD, hfn, fk_kind hk hkey, true_and]
    rw [if_pos (by omega), set_app_len (by simpa using hFt)]
  refine ⟨_, pk, a2, b2, some (.loc M.length), o5', fk_put hk hkey (by omega), hdl, hpk, ?_⟩
  generalize hsk : sortD (pk.map pairD) = sk at *
  have hki : xItemsF bSortItems (xVar 4) (run ds (n + 1)) [some (.loc l), some (.int many), some (.loc F), o3, some (.loc M.length), o5'] (M.set l (bag a2 b2 c) ++ [.dict pk false]) = .ok (.loc (M.set l (bag a2 b2 c) ++ [O.dict pk false]).length) (M.set l (bag a2 b2 c) ++ [.dict pk false] ++ [.lst sk]) := by
    unfold xItemsF
    simp only [xVar_ev, List.getElem?_cons_succ, List.getElem?_cons_zero, Out.bind_ok, hen, hsi, Out.ofO_some]
  have hkk : xGc (xCallF bTuple (aCons (xItemsF bSortItems (xVar 4)) (aNil))) (run ds (n + 1)) [some (.loc l), some (.int many), some (.loc F), o3, some (.loc M.length), o5'] (M.set l (bag a2 b2 c) ++ [.dict pk false]) = .ok (.tup sk) (M.set l (bag a2 b2 c) ++ [.dict pk false]) := by
    simp only [xGc_ev, xCallF_ev, aCons_ev, hki, Out.bind_ok, aNil_ev, hbt, Out.ofO_some, g2]
  have e1 : sSet 4 (xGc xEmpty) (run ds (n + 1)) [some (.loc l), some (.int many), some (.loc F), o3, o4, o5] M = .next [some (.loc l), some (.int many), some (.loc F), o3, some (.loc M.length), o5] (M ++ [.dict [] false]) := by
    simp [xEmpty, g0]
  have e2 : xGc (xBin opAdd (xLit (.int 1)) (xCall 24 (aCons (xVar 0) (aCons (xLit (.int 4)) (aNil))))) (run ds (n + 1)) [some (.loc l), some (.int many), some (.loc F), o3, some (.loc M.length), o5'] (M.set l (bag a1 b1 c) ++ [.dict pk false]) = .ok (.int (1 + t)) (M.set l (bag a2 b2 c) ++ [.dict pk false]) := by
    simp [opAdd, hd1, g1]
  simp only [b33b, sSeq_ev, e1, seq_next, hin, sSub, e2, ofE_ok, xVar_ev, List.getElem?_cons_succ, List.getElem?_cons_zero, hkk, hs]
theorem s33 (n l : Nat) (a b c : Int) (many : Nat) (m : Mem) (hm : m[l]? = some (bag a b c)) (hcl : ClM m) (h1 : 1 ≤ many) (h2 : many ≤ 1000) :
    ∃ ps a' b', sumB many ps = true ∧ (∀ p ∈ ps, goodP many p) ∧ ps.length ≤ 3 ∧ run ds (n + 2) 33 [.loc l, .int many] m = .ok (.tup ps) (m.set l (bag a' b' c)) := by
  have z := sizeLine_is
  have hlt : l < m.length := (List.getElem?_eq_some_iff.mp hm).1
  obtain ⟨r, a1, b1, hr0, hr1, h24⟩ := s24 n l a b c 4 (m ++ [.dict [] false]) (by rw [List.getElem?_append_left hlt]; exact hm) (by omega) (by omega)
  obtain ⟨k, rfl⟩ := Int.eq_ofNat_of_zero_le hr0
  rw [set_app_len hlt] at h24
  obtain ⟨ρ', m', hf, i1⟩ := sFor_inv (fe := run ds (n + 1)) (ρ := [some (.loc l), some (.int many), some (.loc m.length), none, none, none]) (m := m ++ [.dict [] false]) (m1 := m.set l (bag a1 b1 c) ++ [.dict [] false]) (it := iRange1 (aCons (xCall 24 (aCons (xVar 0) (aCons (xLit (.int 4)) (aNil)))) (aNil))) (p := .nm 3) (b := b33b) (w := []) (xs := rangeD 0 k)
    (fun rest ρ mm => ∃ a' b' kvs ex o3 o4 o5, ρ = [some (.loc l), some (.int many), some (.loc m.length), o3, o4, o5] ∧ mm = m.set l (bag a' b' c) ++ (.dict kvs false :: ex) ∧ fkOk many kvs ∧ kvs.length + rest.length ≤ 3)
    (irange1_ev (by omega) (by simp [h24])) (fun _ _ _ _ => rfl) ⟨a1, b1, [], [], none, none, none, rfl, rfl, ⟨by simp, by simp⟩, by rw [rangeD_len]; simp; omega⟩ (by
      rintro x rest ρ mm ⟨a', b', kvs, ex, o3, o4, o5, rfl, rfl, hk, hlen⟩
      simp only [List.length_cons] at hlen
      obtain ⟨kvs', pk, a2, b2, o4', o5', hk', hl', _, ht⟩ := turn33 n l m.length a' b' c many (m.set l (bag a' b' c) ++ (.dict kvs false :: ex)) kvs (some x) o4 o5 (by rw [List.getElem?_append_left (by simpa using hlt)]; simp [hlt]) (by rw [List.getElem?_append_right (by simp)]; simp) (by omega) hk (by omega) h1 h2
      refine ⟨_, _, _, rfl, .inl ht, a2, b2, kvs', ex ++ [.dict pk false], some x, o4', o5', rfl, ?_, hk', by omega⟩
      rw [set_app_len (by simpa using hlt), List.set_set, List.set_append_right _ _ (by simp)]
      simp)
  obtain ⟨a', b', kvs, ex, o3, o4, o5, rfl, rfl, hk, hlen⟩ := i1
  simp only [List.length_nil, Nat.add_zero] at hlen
  obtain ⟨hps, hsum, hgood⟩ := fk_sum hk hlen
  refine ⟨sortD (kvs.map pairD), a', b', hsum, hgood, by rw [sort_len]; simpa using hlen, ?_⟩
  have hF : (m.set l (bag a' b' c) ++ (.dict kvs false :: ex))[m.length]? = some (.dict kvs false) := by rw [List.getElem?_append_right (by simp)]; simp
  have hsi := sortItems_of hF (prodS_sortable hps) (by omega)
  have hbt := bTuple_end (m := m.set l (bag a' b' c) ++ (.dict kvs false :: ex)) (xs := sortD (kvs.map pairD))
  have hcs : ∀ n, closed n (.tup (sortD (kvs.map pairD))) = true := fun n => by simp [closed, prodS_closed (sort_all hps)]
  have g2 : gcO (m.set l (bag a' b' c) ++ (.dict kvs false :: ex)) (.ok (.tup (sortD (kvs.map pairD))) (m.set l (bag a' b' c) ++ (.dict kvs false :: ex) ++ [.lst (sortD (kvs.map pairD))])) = .ok (.tup (sortD (kvs.map pairD))) (m.set l (bag a' b' c) ++ (.dict kvs false :: ex)) := gcO_app _ (hcs _)
  have g3 : gcO m (.ok (.tup (sortD (kvs.map pairD))) (m.set l (bag a' b' c) ++ (.dict kvs false :: ex))) = .ok (.tup (sortD (kvs.map pairD))) (m.set l (bag a' b' c)) := gc_set hcl _ (hcs _)
  have g0 : gcO m (.ok (.loc m.length) (m ++ [.dict [] false])) = .ok (.loc m.length) (m ++ [.dict [] false]) := by simp [gcO, closed]
  generalize sortD (kvs.map pairD) = sk at *
  have hki : ∀ ρ, ρ[2]? = some (some (.loc m.length)) → xItemsF bSortItems (xVar 2) (run ds (n + 1)) ρ (m.set l (bag a' b' c) ++ (.dict kvs false :: ex)) = .ok (.loc (m.set l (bag a' b' c) ++ (O.dict kvs false :: ex)).length) (m.set l (bag a' b' c) ++ (.dict kvs false :: ex) ++ [.lst sk]) := fun ρ hρ => by
    unfold xItemsF
    simp only [xVar_ev, hρ, Out.bind_ok, hF, hsi, Out.ofO_some]
  have hkk : ∀ ρ, ρ[2]? = some (some (.loc m.length)) → xGc (xCallF bTuple (aCons (xItemsF bSortItems (xVar 2)) (aNil))) (run ds (n + 1)) ρ (m.set l (bag a' b' c) ++ (.dict kvs false :: ex)) = .ok (.tup sk) (m.set l (bag a' b' c) ++ (.dict kvs false :: ex)) := fun ρ hρ => by
    simp only [xGc_ev, xCallF_ev, aCons_ev, hki ρ hρ, Out.bind_ok, aNil_ev, hbt, Out.ofO_some, g2]
  have ed : d33 = sSeq (sSet 2 (xGc (xEmpty))) (sSeq (sFor (iRange1 (aCons (xCall 24 (aCons (xVar 0) (aCons (xLit (.int 4)) (aNil)))) (aNil))) (.nm 3) b33b) (sRet (xGc (xCallF bTuple (aCons (xItemsF bSortItems (xVar 2)) (aNil)))))) := rfl
  rw [r33, ed]
  have e1 : sSet 2 (xGc xEmpty) (run ds (n + 1)) [some (.loc l), some (.int many), none, none, none, none] m = .next [some (.loc l), some (.int many), some (.loc m.length), none, none, none] (m ++ [.dict [] false]) := by
    simp [xEmpty, g0]
  have e2 := hkk [some (.loc l), some (.int many), some (.loc m.length), o3, o4, o5] rfl
  show gcO m (bodyD 2 6 _ (run ds (n + 1)) [.loc l, .int many] m) = _
  rw [bodyD_ev (by rfl)]
  simp only [List.map_cons, List.map_nil, List.cons_append, List.nil_append, Nat.reduceSub, List.replicate, sSeq_ev, e1, seq_next, hf, sRet_ev, e2, ofE_ok, g3]
end K60
end Mn
set_option Elab.async false
set_option linter.all false
set_option maxRecDepth 100000
set_option maxHeartbeats 1000000
namespace Mn
namespace K60
open PySem
/-- rows, as wide as their names tell, strictly ascending -/
structure TB (xs : List D) : Prop where
  rows : xs.all rowB = true
  wid : xs.all (widthB wd) = true
  asc : xs.Pairwise fun a b => ltD a b = true
theorem TB.tab {xs : List D} (h : TB xs) (hl : xs.length ≤ 40) : tabB xs = true := by
  simp only [tabB, Bool.and_eq_true, decide_eq_true_eq]
  exact ⟨⟨⟨hl, h.rows⟩, pairwise_ascD h.asc⟩, fit_ok wd h.wid⟩
theorem TB.nd {xs : List D} (h : TB xs) : xs.Nodup := asc_nodup h.asc
theorem TB.rowsB {xs : List D} (h : TB xs) : rowsB xs = true := by
  simp only [K60.rowsB, Bool.and_eq_true]
  exact ⟨h.rows, pairwise_ascD h.asc⟩
theorem TB.sub {xs ys : List D} (h : TB xs) (hs : ys.Sublist xs) : TB ys := ⟨List.all_eq_true.mpr fun d hd => List.all_eq_true.mp h.rows d (hs.mem hd), List.all_eq_true.mpr fun d hd => List.all_eq_true.mp h.wid d (hs.mem hd), h.asc.sublist hs⟩
theorem TB.sort {xs : List D} (hr : xs.all rowB = true) (hw : xs.all (widthB wd) = true) (nd : xs.Nodup) : TB (sortD xs) := ⟨sort_all hr, sort_all hw, sort_asc hr nd⟩
theorem TB.made {vs ks : List D} (hv : vs.all valB = true) (nd : ks.Nodup) (h : ∀ r ∈ ks, madeB vs r) : TB (sortD ks) := TB.sort (List.all_eq_true.mpr fun r hr => (made_row hv (h r hr)).1) (List.all_eq_true.mpr fun r hr => (made_row hv (h r hr)).2) nd
/-- a change that goes with tables -/
structure GC (T A B : List D) : Prop where
  t : TB T
  a : TB A
  b : TB B
  at_ : ∀ d ∈ A, d ∈ T
  bt : ∀ d ∈ B, d ∉ T
  len : T.length + B.length ≤ 40
theorem all_app {xs ys : List D} {p : D → Bool} (h : xs.all p = true) (g : ys.all p = true) : (xs ++ ys).all p = true := by rw [List.all_append, h, g]; rfl
theorem GC.goes {T A B : List D} (h : GC T A B) : goesB T A B = true := by
  simp only [goesB, Bool.and_eq_true, Bool.not_eq_true']
  refine ⟨⟨⟨⟨h.a.rowsB, h.b.rowsB⟩, ?_⟩, ?_⟩, ?_⟩
  · simp only [List.all_eq_true, decide_eq_true_eq]; exact h.at_
  · simp only [List.any_eq_false, decide_eq_true_eq]; exact h.bt
  · refine tab_ok wd (all_app h.t.rows h.b.rows) (all_app h.t.wid h.b.wid) (List.nodup_append.mpr ⟨h.t.nd, h.b.nd, fun a ha b hb e => h.bt b hb (e ▸ ha)⟩) (by rw [List.length_append]; exact h.len)
theorem chg_mem {T A B : List D} {d : D} : d ∈ chgBy T A B ↔ (d ∈ T ∧ d ∉ A) ∨ d ∈ B := by
  unfold chgBy
  rw [sort_mem, List.mem_append, List.mem_filter, decide_eq_true_eq]
theorem filt_sub {xs : List D} {p : D → Bool} : (xs.filter p).Sublist xs := List.filter_sublist
theorem GC.out {T A B : List D} (h : GC T A B) : TB (chgBy T A B) ∧ (chgBy T A B).length ≤ T.length + B.length := by
  have hf := h.t.sub (filt_sub (p := fun d => decide (d ∉ A)))
  refine ⟨TB.sort (all_app hf.rows h.b.rows) (all_app hf.wid h.b.wid) (List.nodup_append.mpr ⟨hf.nd, h.b.nd, fun a ha b hb e => ?_⟩), chgBy_len T A B⟩
  subst e
  exact h.bt a hb (List.mem_filter.mp ha).1
theorem filt_nodup_sort {T A B : List D} (h : GC T A B) : (T.filter (fun d => decide (d ∉ A)) ++ B).Nodup := List.nodup_append.mpr ⟨(h.t.sub filt_sub).nd, h.b.nd, fun a ha b hb e => by
  subst e
  exact h.bt a hb (List.mem_filter.mp ha).1⟩
theorem chg_is {T A B Z : List D} (h : GC T A B) (hz : TB Z) (e : ∀ d, ((d ∈ T ∧ d ∉ A) ∨ d ∈ B) ↔ d ∈ Z) : chgBy T A B = Z := by
  unfold chgBy
  refine sort_same (all_app (h.t.sub filt_sub).rows h.b.rows) (filt_nodup_sort h) hz.asc fun d => ?_
  rw [List.mem_append, List.mem_filter, decide_eq_true_eq]
  exact e d
theorem GC.undo {T A B : List D} (h : GC T A B) (hl : T.length + B.length + A.length ≤ 40) : GC (chgBy T A B) B A ∧ chgBy (chgBy T A B) B A = T := by
  obtain ⟨h1, h2⟩ := h.out
  have g : GC (chgBy T A B) B A := ⟨h1, h.b, h.a, fun d hd => chg_mem.mpr (.inr hd), fun d hd hc => by
    rcases chg_mem.mp hc with q | q
    · exact q.2 hd
    · exact h.bt d q (h.at_ d hd), by omega⟩
  refine ⟨g, chg_is g h.t fun d => ⟨?_, fun hd => ?_⟩⟩
  · rintro (⟨q1, q2⟩ | q)
    · rcases chg_mem.mp q1 with q | q
      · exact q.1
      · exact absurd q q2
    · exact h.at_ d q
  · by_cases c : d ∈ A
    · exact .inr c
    · exact .inl ⟨chg_mem.mpr (.inl ⟨hd, c⟩), fun hb => h.bt d hb hd⟩
theorem GC.one {T Z : List D} (ht : TB T) (hz : TB Z) (hl : T.length + Z.length ≤ 40) : GC T (outOf T Z) (outOf Z T) ∧ chgBy T (outOf T Z) (outOf Z T) = Z := by
  have hm : ∀ (xs zs : List D) d, d ∈ outOf xs zs ↔ d ∈ xs ∧ d ∉ zs := fun xs zs d => by
    unfold outOf
    rw [List.mem_filter, decide_eq_true_eq]
  have g : GC T (outOf T Z) (outOf Z T) := ⟨ht, ht.sub filt_sub, hz.sub filt_sub, fun d hd => ((hm _ _ _).mp hd).1, fun d hd => ((hm _ _ _).mp hd).2, by have := outOf_len Z T; omega⟩
  refine ⟨g, chg_is g hz fun d => ?_⟩
  rw [hm, hm]
  constructor
  · rintro (⟨q1, q2⟩ | q)
    · by_cases c : d ∈ Z
      · exact c
      · exact absurd ⟨q1, c⟩ q2
    · exact q.1
  · intro hd
    by_cases c : d ∈ T
    · exact .inl ⟨c, fun q => q.2 hd⟩
    · exact .inr ⟨hd, c⟩
end K60
end Mn
set_option Elab.async false
set_option linter.all false
set_option maxRecDepth 100000
set_option maxHeartbeats 1000000
namespace Mn
namespace K60
open PySem
mutual
theorem eqv_self : ∀ (n : Nat) (d : D), pureD n d = true → eqv d d = true
  | _, .non, _ => rfl
  | _, .bl b, _ => by cases b <;> rfl
  | _, .int i, _ => by simp [eqv]
  | _, .str s, _ => by simp [eqv]
  | 0, .tup xs, h => by simp [pureD] at h
  | n + 1, .tup xs, h => by
    simp only [pureD] at h
    simp only [eqv]
    exact eqvs_self n xs h
  | _, .seq _, h => by simp [pureD] at h
  | _, .loc _, h => by simp [pureD] at h
  | _, .fn _, h => by simp [pureD] at h
theorem eqvs_self : ∀ (n : Nat) (ds : List D), pureDs n ds = true → eqvs ds ds = true
  | _, [], _ => rfl
  | n, x :: xs, h => by
    simp only [pureDs, Bool.and_eq_true] at h
    simp only [eqvs, eqv_self n x h.1, eqvs_self n xs h.2, Bool.and_self]
end
theorem eqM_self {m : Mem} {d : D} (h : pureD 12 d = true) : eqM m d d = some true := by simp [eqM, h, eqv_self 12 d h]
theorem opNe_self {m : Mem} {d : D} (h : pureD 12 d = true) : opNe d d m = some (.bl false, m) := by simp [opNe, eqM_self h]
theorem eqvAll_self : ∀ {ds : List D} {n : Nat}, pureDs n ds = true → PyData.eqvAll (toPys ds) (toPys ds) = true
  | [], _, _ => by simp [toPys, PyData.eqvAll]
  | x :: xs, n, h => by
    simp only [pureDs, Bool.and_eq_true] at h
    have := eqv_py n n x x h.1 h.1
    rw [eqv_self n x h.1] at this
    simp [toPys, PyData.eqvAll, ← this, eqvAll_self h.2]
theorem eqM_lsts {m : Mem} {a b : Nat} {xs : List D} (ha : m[a]? = some (.lst xs)) (hb : m[b]? = some (.lst xs)) (h : pureDs 11 xs = true) : eqM m (.loc a) (.loc b) = some true := by
  have e : pureD 12 (.loc a) = false := rfl
  unfold eqM
  rw [e]
  simp only [Bool.false_eq_true, false_and, if_false, rd, ha, hb, pure_rds 11 xs h, Option.map_some, PyData.eqv, eqvAll_self h]
theorem tab_pure {xs : List D} (h : xs.all rowB = true) : pureD 12 (tab xs) = true := by simp [tab, pureD, pureDs, tables_ok, rows_pure (k := 8) h]
theorem chg_pure {a b : List D} (ha : a.all rowB = true) (hb : b.all rowB = true) : pureD 12 (chg a b) = true := by simp [chg, pureD, pureDs, change_ok, rows_pure (k := 8) ha, rows_pure (k := 8) hb]
theorem chg_closed {k : Nat} {a b : List D} (ha : a.all rowB = true) (hb : b.all rowB = true) : closed k (chg a b) = true := by simp [chg, closed, closeds, rows_closed ha, rows_closed hb]
/-! ### changes that are none -/
/-- it does not go with these tables -/
def noGo (T : List D) (o : D) (m : Mem) : Prop := ∀ n, run ds (n + 5) 12 [tab T, o] m = .ok (.bl false) m
theorem noGo_of {T : List D} {o : D} {m : Mem} (h : ∀ n, run ds (n + 4) 11 [o] m = .ok (.bl false) m) : noGo T o m := fun n => by simp [r12, d12, h n, truth]
section
variable {T : List D} {o : D} {m : Mem}
theorem noGo.is (h : noGo T o m) (ht : TB T) (hl : T.length ≤ 40) (n : Nat) : run ds (n + 6) 13 [tab T, o] m = .ok (.bl false) m := by
  have z := sizeLine_is
  have h7 := fun m => s7 (n + 1) T m (rows_known ht.rows) (by omega)
  simp only [ht.tab hl, if_true] at h7
  simp [r13, d13, h7, h n]
theorem noGo.check (h : noGo T o m) (n : Nat) : run ds (n + 6) 14 [tab T, o] m = .exc 4 (some (.str "change")) m := by
  simp [r14, d14, h n, truth]
theorem noGo.changed (h : noGo T o m) (ht : TB T) (hl : T.length ≤ 40) (n : Nat) : run ds (n + 7) 16 [tab T, o] m = .exc 4 (some (.str "change")) m := by
  have z := sizeLine_is
  have h7 := fun m => s7 (n + 2) T m (rows_known ht.rows) (by omega)
  simp only [ht.tab hl, if_true] at h7
  simp [r16, d16, h7, h.check n]
theorem noGo.moved (h : noGo T o m) (ht : TB T) (hl : T.length ≤ 40) (n : Nat) : run ds (n + 7) 20 [tab T, o] m = .exc 4 (some (.str "change")) m := by
  have z := sizeLine_is
  have h7 := fun m => s7 (n + 2) T m (rows_known ht.rows) (by omega)
  simp only [ht.tab hl, if_true] at h7
  simp [r20, d20, h7, h.check n]
theorem no_non (n : Nat) (m : Mem) : run ds (n + 4) 11 [.non] m = .ok (.bl false) m := by simp [r11, d11, tyN, isT, truth]
theorem no_int (n : Nat) (i : Int) (m : Mem) : run ds (n + 4) 11 [.int i] m = .ok (.bl false) m := by simp [r11, d11, tyN, isT, truth]
theorem no_four (n : Nat) (a b c d : D) (m : Mem) : run ds (n + 4) 11 [.tup [a, b, c, d]] m = .ok (.bl false) m := by simp [r11, d11, tyN, isT, truth, bLen, opNe, eqM, pureD, eqv]
theorem changes_ok : PyData.strOk ("changes" : Str) = true := by decide +kernel
theorem changes_ne : (("changes" : Str) = ("change" : Str)) = False := by
  simp only [eq_iff_iff, iff_false]
  decide +kernel
theorem no_word (n : Nat) (a b : D) (m : Mem) : run ds (n + 4) 11 [.tup [.str "changes", a, b]] m = .ok (.bl false) m := by
  have e : ((("changes" : Str) == ("change" : Str))) = false := by decide +kernel
  simp [r11, d11, tyN, isT, truth, bLen, opNe, eqM, pureD, change_ok, changes_ok, eqv, opIx, e]
theorem no_list (n q : Nat) (b : D) (m : Mem) (h : m[q]? = some (.lst [])) : run ds (n + 4) 11 [.tup [.str "change", .loc q, b]] m = .ok (.bl false) m := by
  have h10 := fun mm hm => s10l (n + 2) q [] mm hm
  have h1 := h10 m h
  simp [r11, d11, tyN, isT, truth, bLen, opNe, eqM, pureD, change_ok, eqv, opIx, h1]
theorem no_chg {a b : List D} (hx : T.all rowB = true) (hlx : T.length ≤ 1000) (ha : a.all knownR = true) (hb : b.all knownR = true) (hla : a.length ≤ 1000) (hlb : b.length ≤ 1000) (h : goesB T a b = false) : noGo T (chg a b) m := fun n => by
  rw [s12 n T a b m hx hlx ha hb hla hlb, h]
/-- rows of one name are of one width -/
theorem fitGo_same : ∀ (xs : List D) (kvs : List (D × D)), fitGo kvs xs = true → ∃ kvs', (∀ z v, dGet kvs z = some v → dGet kvs' z = some v) ∧ ∀ z ws, D.tup [z, .tup ws] ∈ xs → dGet kvs' z = some (.int ws.length)
  | [], kvs, _ => ⟨kvs, fun _ _ h => h, fun _ _ h => by simp at h⟩
  | x :: xs, kvs, h => by
    unfold fitGo at h
    split at h
    · rename_i e; cases e
    · rename_i kvs0 l0 name things r e2
      simp only [List.cons.injEq] at e2
      obtain ⟨rfl, rfl⟩ := e2
      split at h
      · rename_i v ev
        simp only [Bool.and_eq_true, decide_eq_true_eq] at h
        obtain ⟨kvs', g1, g2⟩ := fitGo_same _ _ h.2
        refine ⟨kvs', g1, fun z ws hz => ?_⟩
        rcases List.mem_cons.mp hz with e | hz
        · simp only [D.tup.injEq, List.cons.injEq, and_true] at e
          obtain ⟨rfl, rfl⟩ := e
          rw [g1 _ _ ev, h.1]
        · exact g2 z ws hz
      · rename_i ev
        obtain ⟨kvs', g1, g2⟩ := fitGo_same _ _ h
        have hp : ∀ (K : List (D × D)) (v : D), dGet K name = none → dGet (dPut K name v) name = some v := fun K v ev => by
          rw [dPut_none ev]
          unfold dGet at ev ⊢
          rw [List.find?_append]
          simp only [Option.map_eq_none_iff] at ev
          simp [ev]
        refine ⟨kvs', fun z v hv => ?_, fun z ws hz => ?_⟩
        · refine g1 z v ?_
          rw [dPut_none ev]
          unfold dGet at hv ⊢
          rw [List.find?_append]
          obtain ⟨q, hq, rfl⟩ := Option.map_eq_some_iff.mp hv
          simp [hq]
        · rcases List.mem_cons.mp hz with e | hz
          · simp only [D.tup.injEq, List.cons.injEq, and_true] at e
            obtain ⟨rfl, rfl⟩ := e
            exact g1 _ _ (hp _ _ ev)
          · exact g2 z ws hz
    · cases h
theorem no_fit {xs : List D} {z : D} {vs ws : List D} (h1 : D.tup [z, .tup vs] ∈ xs) (h2 : D.tup [z, .tup ws] ∈ xs) (hne : vs.length ≠ ws.length) : fitB xs = false := by
  cases c : fitB xs with
  | false => rfl
  | true =>
    obtain ⟨kvs', _, g⟩ := fitGo_same xs [] c
    have e1 := g z vs h1
    rw [g z ws h2] at e1
    simp only [Option.some.injEq, D.int.injEq] at e1
    omega
end
end K60
end Mn
set_option Elab.async false
set_option linter.all false
set_option maxRecDepth 100000
set_option maxHeartbeats 1000000
namespace Mn
namespace K60
open PySem
def e34_0 : DenS := sSet 1 (xGc (xCall 26 (aCons (xVar 0) (aNil))))
def e34_1 : DenS := sSet 2 (xGc (xCall 28 (aCons (xVar 0) (aCons (xVar 1) (aCons (xLit (.int 9)) (aNil))))))
def e34_2 : DenS := sSet 3 (xGc (xCall 30 (aCons (xVar 0) (aCons (xVar 2) (aCons (xVar 1) (aNil))))))
def e34_3 : DenS := sSet 4 (xGc (xCall 31 (aCons (xVar 2) (aCons (xVar 3) (aNil)))))
def e34_4 : DenS := sIf (tGc (tOo (tB (xBin opIsNot (xCall 13 (aCons (xVar 2) (aCons (xVar 3) (aNil)))) (xLit (.bl true)))) (tOo (tB (xBin opNe (xCall 16 (aCons (xVar 2) (aCons (xVar 3) (aNil)))) (xVar 4))) (tB (xBin opNe (xCall 17 (aCons (xVar 3) (aNil))) (xTup (aCons (xLit (.str "change")) (aCons (xBin opIx (xVar 3) (xLit (.int 2))) (aCons (xBin opIx (xVar 3) (xLit (.int 1))) (aNil)))))))))) (sRet (xGc (xLit (.bl false)))) (sNil)
def e34_5 : DenS := sIf (tGc (tB (xBin opNe (xCall 16 (aCons (xVar 4) (aCons (xCall 17 (aCons (xVar 3) (aNil))) (aNil)))) (xVar 2)))) (sRet (xGc (xLit (.bl false)))) (sNil)
def e34_6 : DenS := sSet 5 (xGc (xCall 30 (aCons (xVar 0) (aCons (xVar 4) (aCons (xVar 1) (aNil))))))
def e34_7 : DenS := sSet 6 (xGc (xCall 31 (aCons (xVar 4) (aCons (xVar 5) (aNil)))))
def e34_8 : DenS := sSet 7 (xGc (xTup (aCons (xLit (.str "change")) (aCons (xCallF bTuple (aCons (xLc (iAny (xBin opIx (xVar 2) (xLit (.int 1)))) (.nm 14) (tGc (tB (xBin opNotIn (xVar 14) (xBin opIx (xVar 6) (xLit (.int 1)))))) (xGc (xVar 14)) [14]) (aNil))) (aCons (xCallF bTuple (aCons (xLc (iAny (xBin opIx (xVar 6) (xLit (.int 1)))) (.nm 14) (tGc (tB (xBin opNotIn (xVar 14) (xBin opIx (xVar 2) (xLit (.int 1)))))) (xGc (xVar 14)) [14]) (aNil))) (aNil))))))
def e34_9 : DenS := sIf (tGc (tOo (tB (xBin opNe (xCall 18 (aCons (xVar 2) (aCons (xVar 3) (aCons (xVar 5) (aNil))))) (xVar 7))) (tB (xBin opNe (xCall 16 (aCons (xVar 2) (aCons (xVar 7) (aNil)))) (xVar 6))))) (sRet (xGc (xLit (.bl false)))) (sNil)
def e34_10 : DenS := sSet 8 (xGc (xCallF bTuple (aCons (xLc (iAny (xBin opIx (xVar 2) (xLit (.int 1)))) (.nm 14) (tYesD) (xGc (xIf (tB (xBin opIn (xVar 14) (xBin opIx (xVar 4) (xLit (.int 1))))) (xMeth [("list", fIndexL), ("tuple", fIndexT)] (xBin opIx (xVar 4) (xLit (.int 1))) (aCons (xVar 14) (aNil))) (xLit .non))) [14]) (aNil))))
def e34_11 : DenS := sIf (tGc (tB (xBin opNe (xCall 20 (aCons (xVar 2) (aCons (xVar 3) (aNil)))) (xVar 8)))) (sRet (xGc (xLit (.bl false)))) (sNil)
def e34_12 : DenS := sIf (tGc (tB (xBin opNe (xBin opIx (xVar 2) (xLit (.int 1))) (xTup (aNil))))) (sSeq (sSet 10 (xGc (xCall 33 (aCons (xVar 0) (aCons (xCallF bLen (aCons (xBin opIx (xVar 2) (xLit (.int 1))) (aNil))) (aNil)))))) (sSeq (sSet 11 (xGc (xLst (aNil)))) (sSeq (sFor (iAny (xVar 10)) (.tp [.nm 12, .nm 13]) (sIf (tGc (tB (xBin opNotIn (xLit .non) (xLc (iAny (xVar 12)) (.tp [.nm 14, .nm 17]) (tYesD) (xGc (xBin opIx (xVar 8) (xVar 14))) [14, 17])))) (sExpr (xGc (xMeth [("list", fAppend)] (xVar 11) (aCons (xTup (aCons (xCallF bTuple (aCons (xCallF bSorted (aCons (xLc (iAny (xVar 12)) (.tp [.nm 14, .nm 17]) (tYesD) (xGc (xTup (aCons (xBin opIx (xVar 8) (xVar 14)) (aCons (xVar 17) (aNil))))) [14, 17]) (aNil))) (aNil))) (aCons (xVar 13) (aNil)))) (aNil))))) (sNil))) (sIf (tGc (tOo (tB (xBin opNe (xCall 22 (aCons (xVar 2) (aCons (xVar 3) (aCons (xVar 10) (aNil))))) (xCallF bTuple (aCons (xCallF bSorted (aCons (xVar 11) (aNil))) (aNil))))) (tB (xBin opNe (xCall 32 (aCons (xLit (.fn 22)) (aCons (xTup (aCons (xVar 2) (aCons (xLit .non) (aCons (xVar 10) (aNil))))) (aNil)))) (xLit (.str "change")))))) (sRet (xGc (xLit (.bl false)))) (sNil))))) (sNil)
def e34_13 : DenS := sSet 9 (xGc (xLst (aCons (xLit .non) (aCons (xBin opAdd (xTup (aCons (xLit (.str "change")) (aCons (xTup (aNil)) (aCons (xTup (aNil)) (aNil))))) (xTup (aCons (xTup (aNil)) (aNil)))) (aCons (xTup (aCons (xLit (.str "change")) (aCons (xLst (aNil)) (aCons (xTup (aNil)) (aNil))))) (aCons (xTup (aCons (xLit (.str "change")) (aCons (xTup (aCons (xTup (aCons (xLit (.str "e")) (aCons (xTup (aCons (xLit (.str "zz")) (aCons (xLit (.str "zz")) (aNil)))) (aNil)))) (aNil))) (aCons (xTup (aNil)) (aNil))))) (aCons (xTup (aCons (xLit (.str "change")) (aCons (xTup (aNil)) (aCons (xTup (aCons (xTup (aCons (xLit (.str "e")) (aCons (xTup (aCons (xLit (.str "a")) (aNil))) (aNil)))) (aCons (xTup (aCons (xLit (.str "e")) (aCons (xTup (aCons (xLit (.str "a")) (aCons (xLit (.str "b")) (aNil)))) (aNil)))) (aNil)))) (aNil))))) (aCons (xTup (aCons (xLit (.str "change")) (aCons (xTup (aNil)) (aCons (xTup (aCons (xTup (aCons (xLit (.str "e")) (aCons (xTup (aCons (xLit (.str "A")) (aCons (xLit (.str "b")) (aNil)))) (aNil)))) (aNil))) (aNil))))) (aCons (xTup (aCons (xLit (.str "changes")) (aCons (xTup (aNil)) (aCons (xTup (aNil)) (aNil))))) (aNil))))))))))
def e34_14 : DenS := sExpr (xGc (xMeth [("list", fAppend)] (xVar 9) (aCons (xIf (tB (xBin opNe (xBin opIx (xVar 2) (xLit (.int 1))) (xTup (aNil)))) (xTup (aCons (xLit (.str "change")) (aCons (xTup (aNil)) (aCons (xSl (xBin opIx (xVar 2) (xLit (.int 1))) (oNone) (oSome (xLit (.int 1)))) (aNil))))) (xLit (.int 5))) (aNil))))
def e34_15 : DenS := sIf (tGc (tOo (tB (xBin opNe (xLc (iAny (xVar 9)) (.nm 15) (tYesD) (xGc (xCall 13 (aCons (xVar 2) (aCons (xVar 15) (aNil))))) [15]) (xBin opMul (xLst (aCons (xLit (.bl false)) (aNil))) (xLit (.int 8))))) (tOo (tB (xBin opNe (xLc (iAny (xVar 9)) (.nm 15) (tYesD) (xGc (xCall 32 (aCons (xLit (.fn 16)) (aCons (xTup (aCons (xVar 2) (aCons (xVar 15) (aNil)))) (aNil))))) [15]) (xBin opMul (xLst (aCons (xLit (.str "change")) (aNil))) (xLit (.int 8))))) (tB (xBin opNe (xLc (iAny (xVar 9)) (.nm 15) (tYesD) (xGc (xCall 32 (aCons (xLit (.fn 20)) (aCons (xTup (aCons (xVar 2) (aCons (xVar 15) (aNil)))) (aNil))))) [15]) (xBin opMul (xLst (aCons (xLit (.str "change")) (aNil))) (xLit (.int 8)))))))) (sRet (xGc (xLit (.bl false)))) (sNil)
def e34_16 : DenS := sIf (tGc (tOo (tB (xBin opNe (xCall 32 (aCons (xLit (.fn 22)) (aCons (xTup (aCons (xVar 2) (aCons (xVar 3) (aCons (xTup (aCons (xTup (aCons (xTup (aNil)) (aCons (xLit (.int 0)) (aNil)))) (aNil))) (aNil))))) (aNil)))) (xLit (.str "sum")))) (tB (xBin opNe (xCall 32 (aCons (xLit (.fn 22)) (aCons (xTup (aCons (xVar 2) (aCons (xVar 3) (aCons (xTup (aCons (xTup (aCons (xTup (aCons (xTup (aCons (xLit (.int 40)) (aCons (xLit (.int 1)) (aNil)))) (aNil))) (aCons (xLit (.int 1)) (aNil)))) (aNil))) (aNil))))) (aNil)))) (xLit (.str "sum")))))) (sRet (xGc (xLit (.bl false)))) (sNil)
def e34_17 : DenS := sRet (xGc (xAnd (xBin opEq (xLc (iAny (xLst (aCons (xLit (.fn 16)) (aCons (xLit (.fn 20)) (aCons (xLit (.fn 13)) (aNil)))))) (.nm 16) (tYesD) (xGc (xCall 32 (aCons (xVar 16) (aCons (xTup (aCons (xLit .non) (aCons (xVar 3) (aNil)))) (aNil))))) [16]) (xBin opMul (xLst (aCons (xLit (.str "tables")) (aNil))) (xLit (.int 3)))) (xAnd (xBin opEq (xCall 32 (aCons (xLit (.fn 18)) (aCons (xTup (aCons (xVar 2) (aCons (xVar 3) (aCons (xBin opIx (xVar 9) (xLit (.int 3))) (aNil))))) (aNil)))) (xLit (.str "change"))) (xBin opEq (xCall 32 (aCons (xLit (.fn 17)) (aCons (xTup (aCons (xLit .non) (aNil))) (aNil)))) (xLit (.str "change"))))))
theorem ed34 : d34 = sSeq e34_0 (sSeq e34_1 (sSeq e34_2 (sSeq e34_3 (sSeq e34_4 (sSeq e34_5 (sSeq e34_6 (sSeq e34_7 (sSeq e34_8 (sSeq e34_9 (sSeq e34_10 (sSeq e34_11 (sSeq e34_12 (sSeq e34_13 (sSeq e34_14 (sSeq e34_15 (sSeq e34_16 (e34_17))))))))))))))))) := rfl
abbrev E (l q : Nat) (o2 o3 o4 o5 o6 o7 o8 o9 o10 o11 o12 o13 : Option D) : Env := [some (.loc l), some (.loc q), o2, o3, o4, o5, o6, o7, o8, o9, o10, o11, o12, o13, none, none, none, none]
section
variable {l q : Nat} {o2 o3 o4 o5 o6 o7 o8 o9 o10 o11 o12 o13 : Option D} {T A B C F : List D} {M : Mem}
theorem h34_4 (n : Nat) (g : GC T A B) (hlT : T.length ≤ 40) (hlA : A.length ≤ 40) (hlB : B.length ≤ 40) :
    e34_4 (run ds (n + 9)) (E l q (some (tab T)) (some (chg A B)) (some (tab (chgBy T A B))) o5 o6 o7 o8 o9 o10 o11 o12 o13) M = .next (E l q (some (tab T)) (some (chg A B)) (some (tab (chgBy T A B))) o5 o6 o7 o8 o9 o10 o11 o12 o13) M := by
  have h13 := s13 (n + 3) T A B M g.t.rows (by omega) (rows_known g.a.rows) (rows_known g.b.rows) (by omega) (by omega) (g.t.tab hlT)
  rw [g.goes] at h13
  have h16 := s16 (n + 2) T A B M g.t.rows (by omega) (g.t.tab hlT) g.goes (by omega) (by omega)
  have h17 := s17 (n + 4) A B M (rows_known g.a.rows) (rows_known g.b.rows) (by omega) (by omega) (by rw [g.a.rowsB, g.b.rowsB]; rfl)
  have e1 := opNe_self (m := M) (tab_pure g.out.1.rows)
  have e2 := opNe_self (m := M) (chg_pure g.b.rows g.a.rows)
  simp [e34_4, h13, h16, h17, opIsNot, opIx, e1, e2]
theorem h34_5 (n : Nat) (g : GC T A B) (hl : T.length + B.length + A.length ≤ 40) :
    e34_5 (run ds (n + 9)) (E l q (some (tab T)) (some (chg A B)) (some (tab (chgBy T A B))) o5 o6 o7 o8 o9 o10 o11 o12 o13) M = .next (E l q (some (tab T)) (some (chg A B)) (some (tab (chgBy T A B))) o5 o6 o7 o8 o9 o10 o11 o12 o13) M := by
  obtain ⟨g', hu⟩ := g.undo hl
  have ho := g.out.2
  have h16 := s16 (n + 2) (chgBy T A B) B A M g'.t.rows (by omega) (g'.t.tab (by omega)) g'.goes (by omega) (by omega)
  rw [hu] at h16
  have h17 := s17 (n + 4) A B M (rows_known g.a.rows) (rows_known g.b.rows) (by omega) (by omega) (by rw [g.a.rowsB, g.b.rowsB]; rfl)
  have e1 := opNe_self (m := M) (tab_pure g.t.rows)
  simp [e34_5, h16, h17, e1]
theorem h34_8 (n : Nat) (hT : TB T) (hF : TB F) (hlT : T.length ≤ 40) (hlF : F.length ≤ 40) :
    e34_8 (run ds (n + 9)) (E l q (some (tab T)) o3 o4 o5 (some (tab F)) o7 o8 o9 o10 o11 o12 o13) M = .next (E l q (some (tab T)) o3 o4 o5 (some (tab F)) (some (chg (outOf T F) (outOf F T))) o8 o9 o10 o11 o12 o13) M := by
  have z := sizeLine_is
  have hx := hT.rows
  have hz := hF.rows
  have l1 := xLc_pure (fe := run ds (n + 9)) (ρ := E l q (some (tab T)) o3 o4 o5 (some (tab F)) o7 o8 o9 o10 o11 o12 o13) (m := M) (m1 := M) (it := iAny (xBin opIx (xVar 2) (xLit (.int 1)))) (p := .nm 14) (own := [14])
    (t := tGc (tB (xBin opNotIn (xVar 14) (xBin opIx (xVar 6) (xLit (.int 1)))))) (e := xGc (xVar 14)) (fun d => decide (d ∉ F)) id (xs := T) (w := []) (by simp [opIx, tab]) rfl (by omega) fun x hx' => by
      refine ⟨_, rfl, ?_, fun _ => ?_⟩
      · simp [wipeE, opNotIn, opIx, row_in (List.all_eq_true.mp hx x hx') hz]
      · simp [wipeE]
  have l2 := fun m => xLc_pure (fe := run ds (n + 9)) (ρ := E l q (some (tab T)) o3 o4 o5 (some (tab F)) o7 o8 o9 o10 o11 o12 o13) (m := m) (m1 := m) (it := iAny (xBin opIx (xVar 6) (xLit (.int 1)))) (p := .nm 14) (own := [14])
    (t := tGc (tB (xBin opNotIn (xVar 14) (xBin opIx (xVar 2) (xLit (.int 1)))))) (e := xGc (xVar 14)) (fun d => decide (d ∉ T)) id (xs := F) (w := []) (by simp [opIx, tab]) rfl (by omega) fun x hx' => by
      refine ⟨_, rfl, ?_, fun _ => ?_⟩
      · simp [wipeE, opNotIn, opIx, row_in (List.all_eq_true.mp hz x hx') hx]
      · simp [wipeE]
  simp only [List.map_id] at l1 l2
  have e1 : T.filter (fun d => decide (d ∉ F)) = outOf T F := rfl
  have e2 : F.filter (fun d => decide (d ∉ T)) = outOf F T := rfl
  rw [e1] at l1
  rw [e2] at l2
  have c1 := fun k => chg_closed (k := k) (outOf_rows (zs := F) hx) (outOf_rows (zs := T) hz)
  have hg : gcO M (.ok (chg (outOf T F) (outOf F T)) (M ++ [.lst (outOf T F), .lst (outOf F T)])) = .ok (chg (outOf T F) (outOf F T)) M := gcO_app _ (c1 _)
  simp [e34_8, l1, l2, hg]
theorem h34_9 (n : Nat) (g : GC T A B) (g2 : GC (chgBy T A B) C F) (hlT : T.length ≤ 15) (hlA : A.length ≤ 40) (hlB : B.length ≤ 3) (hlC : C.length ≤ 40) (hlF : F.length ≤ 3) :
    e34_9 (run ds (n + 9)) (E l q (some (tab T)) (some (chg A B)) o4 (some (chg C F)) (some (tab (chgBy (chgBy T A B) C F))) (some (chg (outOf T (chgBy (chgBy T A B) C F)) (outOf (chgBy (chgBy T A B) C F) T))) o8 o9 o10 o11 o12 o13) M = .next (E l q (some (tab T)) (some (chg A B)) o4 (some (chg C F)) (some (tab (chgBy (chgBy T A B) C F))) (some (chg (outOf T (chgBy (chgBy T A B) C F)) (outOf (chgBy (chgBy T A B) C F) T))) o8 o9 o10 o11 o12 o13) M := by
  have ho := g.out.2
  have ho2 := g2.out.2
  obtain ⟨g3, hu⟩ := GC.one g.t g2.out.1 (by omega)
  have h18 := s18 (n + 2) T A B C F M g.t.rows (by omega) (g.t.tab (by omega)) g.goes (by omega) (by omega) g2.goes (by omega) (by omega)
  rw [if_pos g3.goes] at h18
  have l1 := outOf_len T (chgBy (chgBy T A B) C F)
  have l2 := outOf_len (chgBy (chgBy T A B) C F) T
  have h16 := s16 (n + 2) T _ _ M g.t.rows (by omega) (g.t.tab (by omega)) g3.goes (by omega) (by omega)
  rw [hu] at h16
  have e1 := opNe_self (m := M) (chg_pure g3.a.rows g3.b.rows)
  have e2 := opNe_self (m := M) (tab_pure g2.out.1.rows)
  generalize chgBy (chgBy T A B) C F = Z at *
  simp [e34_9, h18, h16, e1, e2]
theorem num_closed {k : Nat} {zs xs : List D} : closeds k (xs.map (numD zs)) = true := by
  rw [closeds_all, List.all_map]
  exact List.all_eq_true.mpr fun d _ => by
    simp only [Function.comp_apply, numD]
    split <;> rfl
theorem num_pure {k : Nat} {zs : List D} : ∀ {xs : List D}, pureDs k (xs.map (numD zs)) = true
  | [] => rfl
  | x :: xs => by
    simp only [List.map_cons, pureDs, num_pure, Bool.and_true, numD]
    split <;> simp [pureD]
theorem h34_10 (n : Nat) (hT : TB T) (hF : TB F) (hlT : T.length ≤ 40) :
    e34_10 (run ds (n + 9)) (E l q (some (tab T)) o3 (some (tab F)) o5 o6 o7 o8 o9 o10 o11 o12 o13) M = .next (E l q (some (tab T)) o3 (some (tab F)) o5 o6 o7 (some (.tup (T.map (numD F)))) o9 o10 o11 o12 o13) M := by
  have z := sizeLine_is
  have hx := hT.rows
  have hz := hF.rows
  have l1 := xLc_map (fe := run ds (n + 9)) (ρ := E l q (some (tab T)) o3 (some (tab F)) o5 o6 o7 o8 o9 o10 o11 o12 o13) (m := M) (m1 := M) (it := iAny (xBin opIx (xVar 2) (xLit (.int 1)))) (p := .nm 14) (own := [14])
    (e := xGc (xIf (tB (xBin opIn (xVar 14) (xBin opIx (xVar 4) (xLit (.int 1))))) (xMeth [("list", fIndexL), ("tuple", fIndexT)] (xBin opIx (xVar 4) (xLit (.int 1))) (aCons (xVar 14) (aNil))) (xLit .non))) (numD F) (xs := T) (w := []) (by simp [opIx, tab]) rfl (by omega) fun x hx' => by
      refine ⟨_, rfl, ?_⟩
      have hr := List.all_eq_true.mp hx x hx'
      by_cases c : x ∈ F
      · simp [wipeE, opIn, opIx, row_in hr hz, c, tyD, List.lookup, fIndexT, row_pure (k := 10) hr, rows_pure (k := 9) hz, row_find hr hz c, numD]
      · simp [wipeE, opIn, opIx, row_in hr hz, c, numD]
  have hcl : ∀ k, closeds k (T.map (numD F)) = true := fun k => num_closed
  simp [e34_10, l1, closed, hcl]
theorem h34_11 (n : Nat) (g : GC T A B) (hlT : T.length ≤ 40) (hlA : A.length ≤ 40) (hlB : B.length ≤ 40) :
    e34_11 (run ds (n + 9)) (E l q (some (tab T)) (some (chg A B)) o4 o5 o6 o7 (some (.tup (T.map (numD (chgBy T A B))))) o9 o10 o11 o12 o13) M = .next (E l q (some (tab T)) (some (chg A B)) o4 o5 o6 o7 (some (.tup (T.map (numD (chgBy T A B))))) o9 o10 o11 o12 o13) M := by
  have h20 := s20 (n + 2) T A B M g.t.rows (by omega) (g.t.tab (by omega)) g.goes (by omega) (by omega)
  have e1 := opNe_self (m := M) (d := .tup (T.map (numD (chgBy T A B)))) (by simp only [pureD]; exact num_pure)
  simp [e34_11, h20, e1]
end
end K60
end Mn
set_option Elab.async false
set_option linter.all false
set_option maxRecDepth 100000
set_option maxHeartbeats 1000000
namespace Mn
namespace K60
open PySem
def b34b : DenS := sIf (tGc (tB (xBin opNotIn (xLit .non) (xLc (iAny (xVar 12)) (.tp [.nm 14, .nm 17]) (tYesD) (xGc (xBin opIx (xVar 8) (xVar 14))) [14, 17])))) (sExpr (xGc (xMeth [("list", fAppend)] (xVar 11) (aCons (xTup (aCons (xCallF bTuple (aCons (xCallF bSorted (aCons (xLc (iAny (xVar 12)) (.tp [.nm 14, .nm 17]) (tYesD) (xGc (xTup (aCons (xBin opIx (xVar 8) (xVar 14)) (aCons (xVar 17) (aNil))))) [14, 17]) (aNil))) (aNil))) (aCons (xVar 13) (aNil)))) (aNil))))) (sNil)
section
variable {l q : Nat} {o2 o3 o4 o5 o6 o7 o8 o9 o10 o11 o12 o13 : Option D} {T A B C F : List D} {M : Mem}
theorem num_has {ns rs : List D} (hn : numI ns) (h : ∀ d ∈ rs, ∃ (r : Nat) (t : Int), d = .tup [.int r, .int t] ∧ r < ns.length) : ((rs.map (atD ns)).any fun z => eqv z .non) = !(rs.all fun d => !decide (atD ns d = .non)) ∧ pureDs 11 (rs.map (atD ns)) = true := by
  induction rs with
  | nil => exact ⟨rfl, rfl⟩
  | cons x r ih =>
    obtain ⟨i1, i2⟩ := ih fun d hd => h d (List.mem_cons_of_mem _ hd)
    obtain ⟨k, t, rfl, hk⟩ := h x (by simp)
    rcases at_num (k := 0) hn (t := t) hk with e | ⟨i, e⟩
    · exact ⟨by simp only [List.map_cons, List.any_cons, i1, e, List.all_cons, eqv]; simp, by simp only [List.map_cons, e, pureDs, pureD, i2, Bool.and_self]⟩
    · exact ⟨by simp only [List.map_cons, List.any_cons, i1, e, List.all_cons, eqv]; simp, by simp only [List.map_cons, e, pureDs, pureD, i2, Bool.and_self]⟩
theorem turn34 (fe : FE) (L : Nat) (ns rs acc : List D) (i : Int) (hL : M[L]? = some (.lst acc)) (hcl : ClM M) (hn : numI ns) (hp : goodP ns.length (.tup [.tup rs, .int i])) (hacc : acc.length < 10000) :
    b34b fe (E l q o2 o3 o4 o5 o6 o7 (some (.tup ns)) o9 o10 (some (.loc L)) (some (.tup rs)) (some (.int i))) M = .next (E l q o2 o3 o4 o5 o6 o7 (some (.tup ns)) o9 o10 (some (.loc L)) (some (.tup rs)) (some (.int i))) (if hasB ns (.tup [.tup rs, .int i]) = true then M.set L (.lst (acc ++ [movD ns (.tup [.tup rs, .int i])])) else M) := by
  have z := sizeLine_is
  have hLt : L < M.length := (List.getElem?_eq_some_iff.mp hL).1
  obtain ⟨rs', i', e, hl, hr⟩ := hp
  simp only [D.tup.injEq, List.cons.injEq, D.int.injEq, and_true] at e
  obtain ⟨rfl, rfl⟩ := e
  have l1 := xLc_map (fe := fe) (ρ := E l q o2 o3 o4 o5 o6 o7 (some (.tup ns)) o9 o10 (some (.loc L)) (some (.tup rs)) (some (.int i))) (m := M) (m1 := M) (it := iAny (xVar 12)) (p := .tp [.nm 14, .nm 17]) (own := [14, 17]) (e := xGc (xBin opIx (xVar 8) (xVar 14))) (atD ns) (xs := rs) (w := [])
    (by simp) rfl (by omega) fun x hx => by
      obtain ⟨r, t, rfl, hr'⟩ := hr x hx
      refine ⟨_, rfl, ?_⟩
      simp [wipeE, opIx, at_get (t := t) hr']
  obtain ⟨hh1, hh2⟩ := num_has hn hr
  have hin : opNotIn .non (.loc M.length) (M ++ [.lst (rs.map (atD ns))]) = some (.bl (hasB ns (.tup [.tup rs, .int i])), M ++ [.lst (rs.map (atD ns))]) := by
    have e0 : pureD 12 .non = true := rfl
    simp only [opNotIn, inM, get_end, e0, hh2, and_self, if_true, hh1, Option.map_some, Bool.not_not, hasB]
  cases c : hasB ns (.tup [.tup rs, .int i]) with
  | false =>
    rw [c] at hin
    simp only [b34b, sIf_ev, tGc_ev, tB_ev, xBin_ev, xLit_ev, Out.bind_ok, l1, hin, Out.ofO_some, blK_bl, gcB_app, ofE_ok, Bool.false_eq_true, if_false, sNil_ev]
  | true =>
    rw [c] at hin
    have c' : (rs.all fun d => !decide (atD ns d = .non)) = true := c
    have l2 := xLc_map (fe := fe) (ρ := E l q o2 o3 o4 o5 o6 o7 (some (.tup ns)) o9 o10 (some (.loc L)) (some (.tup rs)) (some (.int i))) (m := M) (m1 := M) (it := iAny (xVar 12)) (p := .tp [.nm 14, .nm 17]) (own := [14, 17]) (e := xGc (xTup (aCons (xBin opIx (xVar 8) (xVar 14)) (aCons (xVar 17) (aNil))))) (mvR ns) (xs := rs) (w := [])
      (by simp) rfl (by omega) fun x hx => by
        obtain ⟨r, t, rfl, hr'⟩ := hr x hx
        refine ⟨_, rfl, ?_⟩
        simp [wipeE, opIx, at_get (t := t) hr', mvR, sndD]
    have hri := mv_rowI hn hr c'
    have hs := bSorted_end (m := M) (rowI_sortable hri) (by simp; omega)
    have hL2 : ∀ x, (M ++ x)[L]? = some (.lst acc) := fun x => by rw [List.getElem?_append_left hLt]; exact hL
    have ha : fAppend (.loc L) [movD ns (.tup [.tup rs, .int i])] (M ++ [.lst (rs.map (mvR ns)), .lst (sortD (rs.map (mvR ns)))]) = some (.non, M.set L (.lst (acc ++ [movD ns (.tup [.tup rs, .int i])])) ++ [.lst (rs.map (mvR ns)), .lst (sortD (rs.map (mvR ns)))]) := by
      simp only [fAppend, hL2, set_app_len hLt]
      rw [if_pos (by omega)]
    have hy : closed M.length (movD ns (.tup [.tup rs, .int i])) = true := by simp [movD, closed, closeds, rowI_closed (sort_all hri)]
    have hg := gcO_new (M := M) (M' := M.set L (.lst (acc ++ [movD ns (.tup [.tup rs, .int i])]))) (r := .non) (by simp) (hcl.put (by
      have := hcl.get hL
      simp only [closedO, closeds_all, List.all_append, Bool.and_eq_true] at this ⊢
      exact ⟨this, by simp [hy]⟩) L) [.lst (rs.map (mvR ns)), .lst (sortD (rs.map (mvR ns)))] rfl
    simp only [movD] at ha hg
    simp only [b34b, sIf_ev, tGc_ev, tB_ev, xBin_ev, xLit_ev, Out.bind_ok, l1, hin, Out.ofO_some, blK_bl, gcB_app, ofE_ok, if_true, sExpr_ev, xGc_ev, xMeth_ev, xCallF_ev, aCons_ev, aNil_ev, xVar_ev, List.getElem?_cons_succ, List.getElem?_cons_zero, tyD, hL, List.lookup, xTup_ev, l2, hs, bTuple_end2, movD]
    simp only [BEq.rfl, bTuple_end2, Out.ofO_some, Out.bind_ok, List.length_cons, List.length_nil, le_sz2, if_true, ha, hg, ofE_ok, Nat.zero_add, Nat.reduceAdd]
theorem numI_num {zs xs : List D} : numI (xs.map (numD zs)) := fun d hd => by
  obtain ⟨y, _, rfl⟩ := List.mem_map.mp hd
  unfold numD
  split
  · exact .inr ⟨_, rfl⟩
  · exact .inl rfl
theorem good_prodI {k : Nat} {ps : List D} (hp : ∀ p ∈ ps, goodP k p) : ps.all prodI = true := List.all_eq_true.mpr fun p h => by
  obtain ⟨rs, i, rfl, h1, h2⟩ := hp p h
  simp only [prodI, Bool.and_eq_true, decide_eq_true_eq]
  refine ⟨List.all_eq_true.mpr fun d hd => ?_, h1⟩
  obtain ⟨r, t, rfl, _⟩ := h2 d hd
  rfl
theorem kept_no (n : Nat) (o : D) (ps : List D) (m : Mem) (hT : TB T) (hlT : T.length ≤ 40) (hp : ps.all prodI = true) (hl : ps.length ≤ 1000) (hs : sumB T.length ps = true) (ho : noGo T o m) : run ds (n + 7) 22 [tab T, o, .tup ps] m = .exc 4 (some (.str "change")) m := by
  have z := sizeLine_is
  have h7 := fun m => s7 (n + 2) T m (rows_known hT.rows) (by omega)
  simp only [hT.tab hlT, if_true] at h7
  have h9 := fun m => s9 (n + 4) T.length ps m hlT hp (by omega)
  rw [hs] at h9
  simp [r22, d22, h7, h9, truth, opIx, bLen, ho.check n]
theorem kept_bad (n : Nat) (o : D) (ps : List D) (m : Mem) (hT : TB T) (hlT : T.length ≤ 40) (hp : ps.all prodI = true) (hl : ps.length ≤ 1000) (hs : sumB T.length ps = false) : run ds (n + 7) 22 [tab T, o, .tup ps] m = .exc 3 none m := by
  have z := sizeLine_is
  have h7 := fun m => s7 (n + 2) T m (rows_known hT.rows) (by omega)
  simp only [hT.tab hlT, if_true] at h7
  have h9 := fun m => s9 (n + 4) T.length ps m hlT hp (by omega)
  rw [hs] at h9
  simp [r22, d22, h7, h9, truth, opIx, bLen]
theorem loop34 (fe : FE) (ns ps : List D) (hcl : ClM M) (hn : numI ns) (hp : ∀ p ∈ ps, goodP ns.length p) (hl : ps.length ≤ 1000) :
    ∃ o12' o13', sFor (iAny (xVar 10)) (.tp [.nm 12, .nm 13]) b34b fe (E l q o2 o3 o4 o5 o6 o7 (some (.tup ns)) o9 (some (.tup ps)) (some (.loc M.length)) o12 o13) (M ++ [.lst []]) = .next (E l q o2 o3 o4 o5 o6 o7 (some (.tup ns)) o9 (some (.tup ps)) (some (.loc M.length)) o12' o13') (M ++ [.lst (kb ns ps)]) := by
  have hset : ∀ x y : O, (M ++ [x]).set M.length y = M ++ [y] := fun x y => by simp
  obtain ⟨ρ', m', h1, i1⟩ := sFor_inv (fe := fe) (ρ := E l q o2 o3 o4 o5 o6 o7 (some (.tup ns)) o9 (some (.tup ps)) (some (.loc M.length)) o12 o13) (m := M ++ [.lst []]) (m1 := M ++ [.lst []]) (it := iAny (xVar 10)) (p := .tp [.nm 12, .nm 13]) (b := b34b) (w := []) (xs := ps)
    (fun rest ρ mm => ∃ done o12 o13, ρ = E l q o2 o3 o4 o5 o6 o7 (some (.tup ns)) o9 (some (.tup ps)) (some (.loc M.length)) o12 o13 ∧ mm = M ++ [.lst (kb ns done)] ∧ done ++ rest = ps)
    (by simp) (fun _ _ _ _ => rfl) ⟨[], o12, o13, rfl, rfl, rfl⟩ (by
      rintro x rest ρ mm ⟨done, o12, o13, rfl, rfl, e⟩
      have hx : x ∈ ps := by rw [← e]; simp
      have hd : ∀ p ∈ done, goodP ns.length p := fun p h => hp p (by rw [← e]; simp [h])
      have hg := hp x hx
      obtain ⟨rs, i, rfl, _⟩ := id hg
      have hkl := kb_len ns done
      have hdl : done.length ≤ ps.length := by rw [← e]; simp
      have hc0 : ClM (M ++ [.lst (kb ns done)]) := hcl.app (prodS_closed (kb_prodS hn hd))
      have ht := turn34 (l := l) (q := q) (o2 := o2) (o3 := o3) (o4 := o4) (o5 := o5) (o6 := o6) (o7 := o7) (o9 := o9) (o10 := some (.tup ps)) fe M.length ns rs (kb ns done) i (M := M ++ [.lst (kb ns done)]) (by simp) hc0 hn hg (by omega)
      refine ⟨_, _, _, rfl, .inl ht, done ++ [.tup [.tup rs, .int i]], _, _, rfl, ?_, by simp [e]⟩
      rw [kb_snoc]
      split
      · rw [hset]
      · rfl)
  obtain ⟨done, o12', o13', rfl, rfl, e⟩ := i1
  rw [List.append_nil] at e
  subst e
  exact ⟨o12', o13', h1⟩
end
end K60
end Mn
set_option Elab.async false
set_option linter.all false
set_option maxRecDepth 100000
set_option maxHeartbeats 1000000
namespace Mn
namespace K60
open PySem
section
variable {l q : Nat} {o2 o3 o4 o5 o6 o7 o8 o9 o10 o11 o12 o13 : Option D} {T A B C F : List D} {M : Mem}
def e12c : DenT := tGc (tOo (tB (xBin opNe (xCall 22 (aCons (xVar 2) (aCons (xVar 3) (aCons (xVar 10) (aNil))))) (xCallF bTuple (aCons (xCallF bSorted (aCons (xVar 11) (aNil))) (aNil))))) (tB (xBin opNe (xCall 32 (aCons (xLit (.fn 22)) (aCons (xTup (aCons (xVar 2) (aCons (xLit .non) (aCons (xVar 10) (aNil))))) (aNil)))) (xLit (.str "change")))))
theorem ed12 : e34_12 = sIf (tGc (tB (xBin opNe (xBin opIx (xVar 2) (xLit (.int 1))) (xTup (aNil))))) (sSeq (sSet 10 (xGc (xCall 33 (aCons (xVar 0) (aCons (xCallF bLen (aCons (xBin opIx (xVar 2) (xLit (.int 1))) (aNil))) (aNil)))))) (sSeq (sSet 11 (xGc (xLst (aNil)))) (sSeq (sFor (iAny (xVar 10)) (.tp [.nm 12, .nm 13]) b34b) (sIf e12c (sRet (xGc (xLit (.bl false)))) (sNil))))) (sNil) := rfl
theorem tup_ne (hT : TB T) : opNe (.tup T) (.tup []) M = some (.bl (!decide (T = [])), M) := by
  have h : pureDs 11 T = true := rows_pure (k := 9) hT.rows
  cases T with
  | nil => rfl
  | cons x r =>
    simp only [pureDs, Bool.and_eq_true] at h
    simp [opNe, eqM, pureD, h.1, h.2, pureDs, eqv, eqvs]
theorem h34_12 (n : Nat) {a b c : Int} (g : GC T A B) (hlT : T.length ≤ 40) (hlA : A.length ≤ 40) (hlB : B.length ≤ 40) (hm : M[l]? = some (bag a b c)) (hcl : ClM M) :
    ∃ a' b' X o10' o11' o12' o13', e34_12 (run ds (n + 9)) (E l q (some (tab T)) (some (chg A B)) o4 o5 o6 o7 (some (.tup (T.map (numD (chgBy T A B))))) o9 o10 o11 o12 o13) M = .next (E l q (some (tab T)) (some (chg A B)) o4 o5 o6 o7 (some (.tup (T.map (numD (chgBy T A B))))) o9 o10' o11' o12' o13') (M.set l (bag a' b' c) ++ X) ∧ ClM (M.set l (bag a' b' c) ++ X) := by
  have z := sizeLine_is
  by_cases ht : T = []
  · refine ⟨a, b, [], o10, o11, o12, o13, ?_, ?_⟩
    · have hn := tup_ne (M := M) g.t
      simp only [ht] at hn
      simp [ed12, opIx, ht, hn, set_self hm]
    · rw [List.append_nil, set_self hm]; exact hcl
  · have hpos : 0 < T.length := List.length_pos_iff.mpr ht
    obtain ⟨ps, a', b', hs, hg, hpl, h33⟩ := s33 (n + 7) l a b c T.length M hm hcl (by omega) (by omega)
    have hn := tup_ne (M := M) g.t
    have g33 : gcO M (.ok (.tup ps) (M.set l (bag a' b' c))) = .ok (.tup ps) (M.set l (bag a' b' c)) := gcO_len (by simp)
    have hcl1 := hcl.set l a' b' c
    generalize hM1 : M.set l (bag a' b' c) = M1 at *
    have g0 : gcO M1 (.ok (.loc M1.length) (M1 ++ [.lst []])) = .ok (.loc M1.length) (M1 ++ [.lst []]) := by simp [gcO, closed]
    have hns : numI (T.map (numD (chgBy T A B))) := numI_num
    have hg' : ∀ p ∈ ps, goodP (T.map (numD (chgBy T A B))).length p := by simpa using hg
    obtain ⟨o12', o13', hloop⟩ := loop34 (l := l) (q := q) (o2 := some (tab T)) (o3 := some (chg A B)) (o4 := o4) (o5 := o5) (o6 := o6) (o7 := o7) (o9 := o9) (o12 := o12) (o13 := o13) (run ds (n + 9)) (T.map (numD (chgBy T A B))) ps hcl1 hns hg' (by omega)
    have hkp := kb_prodS hns hg'
    have hkl := kb_len (T.map (numD (chgBy T A B))) ps
    have hcl2 : ClM (M1 ++ [.lst (kb (T.map (numD (chgBy T A B))) ps)]) := hcl1.app (prodS_closed hkp)
    have h22 := s22 (n + 2) T A B ps _ hcl2 g.t.rows hlT (g.t.tab hlT) g.goes (by omega) (by omega) hg (by omega) hs
    have hbs : bSorted [.loc M1.length] (M1 ++ [.lst (kb (T.map (numD (chgBy T A B))) ps)]) = some (.loc (M1.length + 1), M1 ++ [.lst (kb (T.map (numD (chgBy T A B))) ps), .lst (sortD (kb (T.map (numD (chgBy T A B))) ps))]) := bSorted_end (prodS_sortable hkp) (by omega)
    have e1 := fun m => opNe_self (m := m) (d := .tup (sortD (kb (T.map (numD (chgBy T A B))) ps))) (by simp only [pureD]; exact prodS_pure (k := 8) (sort_all hkp))
    have h32 := fun m => s32_3 (n + 8) 22 (tab T) .non (.tup ps) m 4 (some (.str "change")) (.str "change") (kept_no (n + 1) .non ps m g.t hlT (good_prodI hg) (by omega) hs (noGo_of fun n => no_non n m)) rfl
    have e2 := fun m => opNe_self (m := m) (d := .str "change") (by simp [pureD, change_ok])
    generalize kb (T.map (numD (chgBy T A B))) ps = K at *
    generalize T.map (numD (chgBy T A B)) = N at *
    have hc : e12c (run ds (n + 9)) (E l q (some (tab T)) (some (chg A B)) o4 o5 o6 o7 (some (.tup N)) o9 (some (.tup ps)) (some (.loc M1.length)) o12' o13') (M1 ++ [.lst K]) = .ok false (M1 ++ [.lst K]) := by
      simp [e12c, h22, hbs, e1, h32, e2]
    refine ⟨a', b', [.lst K], some (.tup ps), some (.loc M1.length), o12', o13', ?_, ?_⟩
    · rw [hM1]
      rw [ed12]
      simp [opIx, hn, ht, bLen, h33, g33, g0, hloop, hc]
    · rw [hM1]; exact hcl2
theorem cut_one (x : D) (r : List D) : cutD (x :: r) none (some 1) = [x] := by
  unfold cutD
  have e : HT.sIx (x :: r).length (x :: r).length (some 1) = min 1 (x :: r).length := HT.sIx_nat _ _ 1
  rw [e]
  simp [HT.sIx_none]
/-- the eight that are no changes -/
def odds (k : Nat) (T : List D) : List D := [.non, .tup [.str "change", .tup [], .tup [], .tup []], .tup [.str "change", .loc k, .tup []], chg [.tup [.str "e", .tup [.str "zz", .str "zz"]]] [], chg [] [.tup [.str "e", .tup [.str "a"]], .tup [.str "e", .tup [.str "a", .str "b"]]], chg [] [.tup [.str "e", .tup [.str "A", .str "b"]]], .tup [.str "changes", .tup [], .tup []], match T with
  | [] => .int 5
  | t :: _ => chg [] [t]]
theorem h34_13 (n : Nat) (hT : TB T) (hcl : ClM M) :
    e34_13 (run ds (n + 9)) (E l q (some (tab T)) o3 o4 o5 o6 o7 o8 o9 o10 o11 o12 o13) M = .next (E l q (some (tab T)) o3 o4 o5 o6 o7 o8 (some (.loc (M.length + 1))) o10 o11 o12 o13) (M ++ [.lst [], .lst ((odds M.length T).take 7)]) := by
  have g0 : ∀ x, gcO M (.ok (.loc (M.length + 1)) x) = .ok (.loc (M.length + 1)) x := fun x => by
    have : ¬ (M.length + 1 < M.length) := by omega
    simp [gcO, closed, this]
  simp [e34_13, opAdd, odds, g0]
theorem h34_14 (n : Nat) (hT : TB T) (hcl : ClM M) :
    e34_14 (run ds (n + 9)) (E l q (some (tab T)) o3 o4 o5 o6 o7 o8 (some (.loc (M.length + 1))) o10 o11 o12 o13) (M ++ [.lst [], .lst ((odds M.length T).take 7)]) = .next (E l q (some (tab T)) o3 o4 o5 o6 o7 o8 (some (.loc (M.length + 1))) o10 o11 o12 o13) (M ++ [.lst [], .lst (odds M.length T)]) := by
  have z := sizeLine_is
  have hn := fun m => tup_ne (M := m) hT
  have h7 : ((odds M.length T).take 7).length < sizeLine := by rw [List.length_take]; omega
  have hg : ∀ x y z : O, gcO (M ++ [x, y]) (.ok .non (M ++ [x, z])) = .ok .non (M ++ [x, z]) := fun x y z => gcO_len (by simp)
  have hL : ∀ x y : O, (M ++ [x, y])[M.length + 1]? = some y := fun x y => by
    rw [List.getElem?_append_right (by omega)]; simp
  have hS : ∀ x y z : O, (M ++ [x, y]).set (M.length + 1) z = M ++ [x, z] := fun x y z => by
    rw [List.set_append_right _ _ (by omega)]; simp
  cases T with
  | nil =>
    have hf : fAppend (.loc (M.length + 1)) [.int 5] (M ++ [.lst [], .lst ((odds M.length []).take 7)]) = some (.non, M ++ [.lst [], .lst (odds M.length [])]) := by
      simp only [fAppend, hL, h7, if_true, hS]
      rfl
    simp [e34_14, opIx, hn, hL, tyD, List.lookup, hf, hg]
  | cons t r =>
    have hf : fAppend (.loc (M.length + 1)) [chg [] [t]] (M ++ [.lst [], .lst ((odds M.length (t :: r)).take 7)]) = some (.non, M ++ [.lst [], .lst (odds M.length (t :: r))]) := by
      simp only [fAppend, hL, h7, if_true, hS]
      rfl
    simp [e34_14, opIx, hn, hL, tyD, List.lookup, hf, hg, opSl, cut_one]
end
end K60
end Mn
set_option Elab.async false
set_option linter.all false
set_option maxRecDepth 100000
set_option maxHeartbeats 1000000
namespace Mn
namespace K60
open PySem
section
variable {l q : Nat} {o2 o3 o4 o5 o6 o7 o8 o9 o10 o11 o12 o13 : Option D} {T A B C F vs : List D} {M m : Mem}
abbrev zz : D := chg [.tup [.str "e", .tup [.str "zz", .str "zz"]]] []
theorem not_zz (h : vs ∈ vss) : D.str "zz" ∉ vs := by
  simp only [vss, List.mem_cons, List.not_mem_nil, or_false] at h
  rcases h with rfl | rfl | rfl | rfl <;> decide +kernel
theorem no_zz (hT : TB T) (hl : T.length ≤ 40) (hm : ∀ r ∈ T, madeB vs r) (hvs : vs ∈ vss) : noGo T zz m := by
  have hr : [D.tup [.str "e", .tup [.str "zz", .str "zz"]]].all rowB = true := by decide +kernel
  refine no_chg hT.rows (by omega) (rows_known hr) rfl (by simp) (by simp) ?_
  have : D.tup [.str "e", .tup [.str "zz", .str "zz"]] ∉ T := fun h => by
    obtain ⟨z, ws, e, _, _, hw⟩ := hm _ h
    simp only [D.tup.injEq, List.cons.injEq, and_true] at e
    exact not_zz hvs (hw _ (by rw [← e.2]; simp))
  simp [goesB, this]
theorem no_two (hT : TB T) (hl : T.length ≤ 40) : noGo T (chg [] [.tup [.str "e", .tup [.str "a"]], .tup [.str "e", .tup [.str "a", .str "b"]]]) m := by
  have hr : [D.tup [.str "e", .tup [.str "a"]], .tup [.str "e", .tup [.str "a", .str "b"]]].all rowB = true := by decide +kernel
  refine no_chg hT.rows (by omega) rfl (rows_known hr) (by simp) (by simp) ?_
  have : fitB (sortD (T ++ [.tup [.str "e", .tup [.str "a"]], .tup [.str "e", .tup [.str "a", .str "b"]]])) = false := no_fit (z := .str "e") (vs := [.str "a"]) (ws := [.str "a", .str "b"]) (sort_mem.mpr (by simp)) (sort_mem.mpr (by simp)) (by simp)
  simp [goesB, tabB, this]
theorem no_big (hT : TB T) (hl : T.length ≤ 40) : noGo T (chg [] [.tup [.str "e", .tup [.str "A", .str "b"]]]) m := by
  refine no_chg hT.rows (by omega) rfl (by decide +kernel) (by simp) (by simp) ?_
  have : rowsB [.tup [.str "e", .tup [.str "A", .str "b"]]] = false := by decide +kernel
  simp [goesB, this]
theorem odds_no (hT : TB T) (hl : T.length ≤ 40) (hm : ∀ r ∈ T, madeB vs r) (hvs : vs ∈ vss) {k : Nat} (hk : m[k]? = some (.lst [])) : ∀ o ∈ odds k T, noGo T o m := by
  intro o ho
  simp only [odds, List.mem_cons, List.not_mem_nil, or_false] at ho
  rcases ho with rfl | rfl | rfl | rfl | rfl | rfl | rfl | ho
  · exact noGo_of fun n => no_non n m
  · exact noGo_of fun n => no_four n _ _ _ _ m
  · exact noGo_of fun n => no_list n k _ m hk
  · exact no_zz hT hl hm hvs
  · exact no_two hT hl
  · exact no_big hT hl
  · exact noGo_of fun n => no_word n _ _ m
  · cases T with
    | nil =>
      subst ho
      exact noGo_of fun n => no_int n 5 m
    | cons t r =>
      subst ho
      have ht : [t].all rowB = true := by
        have := hT.rows
        simp only [List.all_cons, Bool.and_eq_true] at this
        simp [this.1]
      refine no_chg hT.rows (by omega) rfl (rows_known ht) (by simp) (by simp) ?_
      simp [goesB]
theorem ne8 {fe : FE} {v : D} {e : Den} {Q : Nat} {od : List D} (hq : M[Q]? = some (.lst od)) (hl : od.length = 8) (hv : pureD 11 v = true)
    (he : ∀ o ∈ od, ∀ x, e fe ((wipeE (E l q o2 o3 o4 o5 o6 o7 o8 (some (.loc Q)) o10 o11 o12 o13) [15]).set 15 (some o)) (M ++ x) = .ok v (M ++ x)) (x : Mem) :
    ∃ y, tB (xBin opNe (xLc (iAny (xVar 9)) (.nm 15) tYesD e [15]) (xBin opMul (xLst (aCons (xLit v) aNil)) (xLit (.int 8)))) fe (E l q o2 o3 o4 o5 o6 o7 o8 (some (.loc Q)) o10 o11 o12 o13) (M ++ x) = .ok false (M ++ (x ++ y)) := by
  have z := sizeLine_is
  have hQt : Q < M.length := (List.getElem?_eq_some_iff.mp hq).1
  have hq' : (M ++ x)[Q]? = some (.lst od) := by rw [List.getElem?_append_left hQt]; exact hq
  have l1 := xLc_map (fe := fe) (ρ := E l q o2 o3 o4 o5 o6 o7 o8 (some (.loc Q)) o10 o11 o12 o13) (m := M ++ x) (m1 := M ++ x) (it := iAny (xVar 9)) (p := .nm 15) (own := [15]) (e := e) (fun _ => v) (xs := od) (w := [(Q, .lst od)])
    (by simp only [iAny_ev, xVar_ev, List.getElem?_cons_succ, List.getElem?_cons_zero, Out.bind_ok, hq']) (by simp [watchOk, hq']) (by omega) fun o ho => ⟨_, rfl, he o ho x⟩
  rw [List.map_const', hl] at l1
  refine ⟨[.lst (List.replicate 8 v), .lst [v], .lst (List.replicate 8 v)], ?_⟩
  have hL : ∀ a b c : O, ((M ++ x) ++ [a, b, c])[(M ++ x).length]? = some a := fun a b c => by simp
  have hL2 : ∀ a b : O, ((M ++ x) ++ [a, b])[(M ++ x).length + 1]? = some b := fun a b => by
    rw [List.getElem?_append_right (by omega)]; simp
  have hL3 : ∀ a b c : O, ((M ++ x) ++ [a, b, c])[(M ++ x).length + 2]? = some c := fun a b c => by
    rw [List.getElem?_append_right (by omega)]; simp
  have hp : pureDs 11 (List.replicate 8 v) = true := by simp [List.replicate, pureDs, hv]
  have e1 := eqM_lsts (hL (.lst (List.replicate 8 v)) (.lst [v]) (.lst (List.replicate 8 v))) (hL3 (.lst (List.replicate 8 v)) (.lst [v]) (.lst (List.replicate 8 v))) hp
  have e2 : opMul (.loc ((M ++ x).length + 1)) (.int 8) ((M ++ x) ++ [.lst (List.replicate 8 v), .lst [v]]) = some (.loc ((M ++ x).length + 2), (M ++ x) ++ [.lst (List.replicate 8 v), .lst [v], .lst (List.replicate 8 v)]) := by
    simp only [opMul, hL2]
    rw [if_pos ⟨by omega, by omega, by rw [z]; simp⟩]
    simp [List.replicate]
    omega
  rw [← List.append_assoc]
  generalize M ++ x = N at *
  simp only [tB_ev, xBin_ev, l1, Out.bind_ok, xLst_ev, aCons_ev, aNil_ev, xLit_ev, List.length_cons, List.length_nil, Nat.zero_add, le_sz1, if_true, List.length_append, List.append_assoc, List.cons_append, List.nil_append, e2, Out.ofO_some, opNe, e1, Option.map_some, blK_bl, Bool.not_true]
theorem h34_15 (n : Nat) {Q : Nat} {od : List D} (hT : TB T) (hlT : T.length ≤ 40) (hq : M[Q]? = some (.lst od)) (hl : od.length = 8) (hno : ∀ o ∈ od, ∀ x, noGo T o (M ++ x)) :
    e34_15 (run ds (n + 9)) (E l q (some (tab T)) o3 o4 o5 o6 o7 o8 (some (.loc Q)) o10 o11 o12 o13) M = .next (E l q (some (tab T)) o3 o4 o5 o6 o7 o8 (some (.loc Q)) o10 o11 o12 o13) M := by
  have q1 := ne8 (l := l) (q := q) (o2 := some (tab T)) (o3 := o3) (o4 := o4) (o5 := o5) (o6 := o6) (o7 := o7) (o8 := o8) (o10 := o10) (o11 := o11) (o12 := o12) (o13 := o13) (fe := run ds (n + 9)) (v := .bl false) (e := xGc (xCall 13 (aCons (xVar 2) (aCons (xVar 15) (aNil))))) hq hl rfl fun o ho x => by
    have := (hno o ho x).is hT hlT (n + 3)
    simp [wipeE, this]
  have q2 := ne8 (l := l) (q := q) (o2 := some (tab T)) (o3 := o3) (o4 := o4) (o5 := o5) (o6 := o6) (o7 := o7) (o8 := o8) (o10 := o10) (o11 := o11) (o12 := o12) (o13 := o13) (fe := run ds (n + 9)) (v := .str "change") (e := xGc (xCall 32 (aCons (xLit (.fn 16)) (aCons (xTup (aCons (xVar 2) (aCons (xVar 15) (aNil)))) (aNil))))) hq hl (by simp [pureD, change_ok]) fun o ho x => by
    have := s32_2 (n + 8) 16 (tab T) o (M ++ x) 4 _ (.str "change") ((hno o ho x).changed hT hlT (n + 1)) rfl
    simp [wipeE, this]
  have q3 := ne8 (l := l) (q := q) (o2 := some (tab T)) (o3 := o3) (o4 := o4) (o5 := o5) (o6 := o6) (o7 := o7) (o8 := o8) (o10 := o10) (o11 := o11) (o12 := o12) (o13 := o13) (fe := run ds (n + 9)) (v := .str "change") (e := xGc (xCall 32 (aCons (xLit (.fn 20)) (aCons (xTup (aCons (xVar 2) (aCons (xVar 15) (aNil)))) (aNil))))) hq hl (by simp [pureD, change_ok]) fun o ho x => by
    have := s32_2 (n + 8) 20 (tab T) o (M ++ x) 4 _ (.str "change") ((hno o ho x).moved hT hlT (n + 1)) rfl
    simp [wipeE, this]
  obtain ⟨y1, h1⟩ := q1 []
  rw [List.append_nil, List.nil_append] at h1
  obtain ⟨y2, h2⟩ := q2 y1
  obtain ⟨y3, h3⟩ := q3 (y1 ++ y2)
  simp only [e34_15, sIf_ev, tGc_ev, tOo_ev, h1, Out.bind_ok, Bool.false_eq_true, if_false, h2, h3, gcB_app, ofE_ok, sNil_ev]
theorem h34_16 (n : Nat) (hT : TB T) (hlT : T.length ≤ 40) (d : D) :
    e34_16 (run ds (n + 9)) (E l q (some (tab T)) (some d) o4 o5 o6 o7 o8 o9 o10 o11 o12 o13) M = .next (E l q (some (tab T)) (some d) o4 o5 o6 o7 o8 o9 o10 o11 o12 o13) M := by
  have k1 := fun m => s32_3 (n + 8) 22 (tab T) d (.tup [.tup [.tup [], .int 0]]) m 3 none (.str "sum") (kept_bad (n + 1) d _ m hT hlT (by decide) (by simp) (by simp [sumB, cntB])) rfl
  have k2 := fun m => s32_3 (n + 8) 22 (tab T) d (.tup [.tup [.tup [.tup [.int 40, .int 1]], .int 1]]) m 3 none (.str "sum") (kept_bad (n + 1) d _ m hT hlT (by decide) (by simp) (by
    have : ¬ ((40 : Int) ≤ (T.length : Int) - 1) := by omega
    simp [sumB, cntB, prodOk, rowOk]
    omega)) rfl
  have e1 := fun m => opNe_self (m := m) (d := .str "sum") (by decide +kernel)
  simp [e34_16, k1, k2, e1]
end
end K60
end Mn
set_option Elab.async false
set_option linter.all false
set_option maxRecDepth 100000
set_option maxHeartbeats 1000000
namespace Mn
namespace K60
open PySem
section
variable {l q : Nat} {o2 o3 o4 o5 o6 o7 o8 o9 o10 o11 o12 o13 : Option D} {T A B C F vs : List D} {M m : Mem}
theorem nn16 (n : Nat) (d : D) (m : Mem) : run ds (n + 3) 16 [.non, d] m = .exc 1 none m := by simp [r16, d16, s7n]
theorem nn20 (n : Nat) (d : D) (m : Mem) : run ds (n + 3) 20 [.non, d] m = .exc 1 none m := by simp [r20, d20, s7n]
theorem nn13 (n : Nat) (d : D) (m : Mem) : run ds (n + 3) 13 [.non, d] m = .exc 1 none m := by simp [r13, d13, s7n]
theorem nn17 (n : Nat) (m : Mem) : run ds (n + 5) 17 [.non] m = .exc 4 (some (.str "change")) m := by simp [r17, d17, no_non, truth]
theorem nn18 (n : Nat) (o : D) (m : Mem) (g : GC T A B) (hlT : T.length ≤ 40) (hlA : A.length ≤ 40) (hlB : B.length ≤ 40) (h : ∀ m, noGo (chgBy T A B) o m) : run ds (n + 7) 18 [tab T, chg A B, o] m = .exc 4 (some (.str "change")) m := by
  have z := sizeLine_is
  have h7 := fun m => s7 (n + 2) T m (rows_known g.t.rows) (by omega)
  simp only [g.t.tab hlT, if_true] at h7
  have h14 := fun m => s14 n T A B m g.t.rows (by omega) (rows_known g.a.rows) (rows_known g.b.rows) (by omega) (by omega)
  simp only [g.goes, if_true] at h14
  have h15 := fun m => s15 (n + 5) T A B m g.t.rows (by omega) g.a.rows g.b.rows (by omega)
  have hc := fun m => (h m).check n
  simp [r18, d18, h7, h14, h15, hc]
theorem opEq_self {m : Mem} {d : D} (h : pureD 12 d = true) : opEq d d m = some (.bl true, m) := by simp [opEq, eqM_self h]
theorem h34_17 (n : Nat) {Q : Nat} {od : List D} (g : GC T A B) (hlT : T.length ≤ 40) (hlA : A.length ≤ 40) (hlB : B.length ≤ 40) (h : ∀ m, noGo (chgBy T A B) zz m) (hq : M[Q]? = some (.lst od)) (h3 : od[3]? = some zz) :
    e34_17 (run ds (n + 9)) (E l q (some (tab T)) (some (chg A B)) o4 o5 o6 o7 o8 (some (.loc Q)) o10 o11 o12 o13) M = .ret (.bl true) M := by
  have z := sizeLine_is
  have hQt : Q < M.length := (List.getElem?_eq_some_iff.mp hq).1
  have htb : PyData.strOk ("tables" : Str) = true := tables_ok
  have k16 := fun m => s32_2 (n + 8) 16 .non (chg A B) m 1 none (.str "tables") (nn16 (n + 5) _ m) rfl
  have k20 := fun m => s32_2 (n + 8) 20 .non (chg A B) m 1 none (.str "tables") (nn20 (n + 5) _ m) rfl
  have k13 := fun m => s32_2 (n + 8) 13 .non (chg A B) m 1 none (.str "tables") (nn13 (n + 5) _ m) rfl
  have k17 := fun m => s32_1 (n + 8) 17 .non m 4 _ (.str "change") (nn17 (n + 3) m) rfl
  have k18 := fun m => s32_3 (n + 8) 18 (tab T) (chg A B) zz m 4 _ (.str "change") (nn18 (n + 1) zz m g hlT hlA hlB h) rfl
  have e2 := fun m => opEq_self (m := m) (d := .str "change") (by simp [pureD, change_ok])
  have l1 := xLc_map (fe := run ds (n + 9)) (ρ := E l q (some (tab T)) (some (chg A B)) o4 o5 o6 o7 o8 (some (.loc Q)) o10 o11 o12 o13) (m := M) (m1 := M ++ [.lst [.fn 16, .fn 20, .fn 13]]) (it := iAny (xLst (aCons (xLit (.fn 16)) (aCons (xLit (.fn 20)) (aCons (xLit (.fn 13)) (aNil)))))) (p := .nm 16) (own := [16]) (e := xGc (xCall 32 (aCons (xVar 16) (aCons (xTup (aCons (xLit .non) (aCons (xVar 3) (aNil)))) (aNil))))) (fun _ => .str "tables") (xs := [.fn 16, .fn 20, .fn 13]) (w := [(M.length, .lst [.fn 16, .fn 20, .fn 13])])
    (by simp) (by simp [watchOk]) (by rw [z]; simp) fun x hx => by
      refine ⟨_, rfl, ?_⟩
      simp only [List.mem_cons, List.not_mem_nil, or_false] at hx
      rcases hx with rfl | rfl | rfl
      · simp [wipeE, k16]
      · simp [wipeE, k20]
      · simp [wipeE, k13]
  simp only [List.map_cons, List.map_nil] at l1
  have hL : ∀ a b c d : O, (M ++ [a, b, c, d])[M.length + 1]? = some b := fun a b c d => by
    rw [List.getElem?_append_right (by omega)]; simp
  have hL2 : ∀ a b c : O, (M ++ [a, b, c])[M.length + 1 + 1]? = some c := fun a b c => by
    rw [List.getElem?_append_right (by omega)]
    have : M.length + 1 + 1 - M.length = 2 := by omega
    rw [this]; rfl
  have hL3 : ∀ a b c d : O, (M ++ [a, b, c, d])[M.length + 1 + 1 + 1]? = some d := fun a b c d => by
    rw [List.getElem?_append_right (by omega)]
    have : M.length + 1 + 1 + 1 - M.length = 3 := by omega
    rw [this]; rfl
  have hp : pureDs 11 [.str "tables", .str "tables", .str "tables"] = true := by simp [pureDs, pureD, htb]
  have e1 := eqM_lsts (hL (.lst [.fn 16, .fn 20, .fn 13]) (.lst [.str "tables", .str "tables", .str "tables"]) (.lst [.str "tables"]) (.lst [.str "tables", .str "tables", .str "tables"])) (hL3 (.lst [.fn 16, .fn 20, .fn 13]) (.lst [.str "tables", .str "tables", .str "tables"]) (.lst [.str "tables"]) (.lst [.str "tables", .str "tables", .str "tables"])) hp
  have e3 : opMul (.loc (M.length + 1 + 1)) (.int 3) (M ++ [.lst [.fn 16, .fn 20, .fn 13], .lst [.str "tables", .str "tables", .str "tables"], .lst [.str "tables"]]) = some (.loc (M.length + 1 + 1 + 1), M ++ [.lst [.fn 16, .fn 20, .fn 13], .lst [.str "tables", .str "tables", .str "tables"], .lst [.str "tables"], .lst [.str "tables", .str "tables", .str "tables"]]) := by
    simp only [opMul, hL2]
    rw [if_pos ⟨by omega, by omega, by rw [z]; simp⟩]
    simp [List.replicate]
  have hq' : ∀ x, (M ++ x)[Q]? = some (.lst od) := fun x => by rw [List.getElem?_append_left hQt]; exact hq
  have h3' : L2.atI od 3 = some zz := by
    have := atI_nat od 3
    rw [h3] at this
    exact this
  have hix : ∀ x, opIx (.loc Q) (.int 3) (M ++ x) = some (zz, M ++ x) := fun x => by
    simp only [opIx, hq', h3', Option.map_some]
  have hx : xLc (iAny (xLst (aCons (xLit (.fn 16)) (aCons (xLit (.fn 20)) (aCons (xLit (.fn 13)) (aNil)))))) (.nm 16) tYesD (xGc (xCall 32 (aCons (xVar 16) (aCons (xTup (aCons (xLit .non) (aCons (xVar 3) (aNil)))) (aNil))))) [16] (run ds (n + 9)) (E l q (some (tab T)) (some (chg A B)) o4 o5 o6 o7 o8 (some (.loc Q)) o10 o11 o12 o13) M = .ok (.loc (M.length + 1)) (M ++ [.lst [.fn 16, .fn 20, .fn 13], .lst [.str "tables", .str "tables", .str "tables"]]) := by
    rw [l1]; simp
  have hfirst : (xBin opEq (xLc (iAny (xLst (aCons (xLit (.fn 16)) (aCons (xLit (.fn 20)) (aCons (xLit (.fn 13)) (aNil)))))) (.nm 16) tYesD (xGc (xCall 32 (aCons (xVar 16) (aCons (xTup (aCons (xLit .non) (aCons (xVar 3) (aNil)))) (aNil))))) [16]) (xBin opMul (xLst (aCons (xLit (.str "tables")) (aNil))) (xLit (.int 3)))) (run ds (n + 9)) (E l q (some (tab T)) (some (chg A B)) o4 o5 o6 o7 o8 (some (.loc Q)) o10 o11 o12 o13) M = .ok (.bl true) (M ++ [.lst [.fn 16, .fn 20, .fn 13], .lst [.str "tables", .str "tables", .str "tables"], .lst [.str "tables"], .lst [.str "tables", .str "tables", .str "tables"]]) := by
    simp only [xBin_ev, hx, Out.bind_ok, xLst_ev, aCons_ev, aNil_ev, xLit_ev, List.length_cons, List.length_nil, Nat.zero_add, le_sz1, if_true, List.length_append, List.append_assoc, List.cons_append, List.nil_append, ← Nat.add_assoc]
    have : M.length + (1 + 1) = M.length + 1 + 1 := rfl
    simp only [this, e3, Out.ofO_some, Out.bind_ok, opEq, e1, Option.map_some]
  have hsec : ∀ x, (xBin opEq (xCall 32 (aCons (xLit (.fn 18)) (aCons (xTup (aCons (xVar 2) (aCons (xVar 3) (aCons (xBin opIx (xVar 9) (xLit (.int 3))) (aNil))))) (aNil)))) (xLit (.str "change"))) (run ds (n + 9)) (E l q (some (tab T)) (some (chg A B)) o4 o5 o6 o7 o8 (some (.loc Q)) o10 o11 o12 o13) (M ++ x) = .ok (.bl true) (M ++ x) := fun x => by
    simp only [xBin_ev, xCall_ev, aCons_ev, aNil_ev, xLit_ev, xTup_ev, xVar_ev, List.getElem?_cons_succ, List.getElem?_cons_zero, Out.bind_ok, hix, Out.ofO_some, List.length_cons, List.length_nil, Nat.zero_add, Nat.reduceAdd, le_sz3, if_true, k18, e2]
  have hthi : ∀ x, (xBin opEq (xCall 32 (aCons (xLit (.fn 17)) (aCons (xTup (aCons (xLit .non) (aNil))) (aNil)))) (xLit (.str "change"))) (run ds (n + 9)) (E l q (some (tab T)) (some (chg A B)) o4 o5 o6 o7 o8 (some (.loc Q)) o10 o11 o12 o13) (M ++ x) = .ok (.bl true) (M ++ x) := fun x => by
    simp only [xBin_ev, xCall_ev, aCons_ev, aNil_ev, xLit_ev, xTup_ev, xVar_ev, List.getElem?_cons_succ, List.getElem?_cons_zero, Out.bind_ok, Out.ofO_some, List.length_cons, List.length_nil, Nat.zero_add, Nat.reduceAdd, le_sz1, if_true, k17, e2]
  simp only [e34_17, sRet_ev, xGc_ev, xAnd_ev, hfirst, Out.bind_ok, andK_bl, if_true, hsec, hthi, gcO_bl, ofE_ok]
end
end K60
end Mn
set_option Elab.async false
set_option linter.all false
set_option maxRecDepth 100000
set_option maxHeartbeats 1000000
namespace Mn
namespace K60
open PySem
theorem vl_get {m : Mem} {i : Nat} {vs : List D} (hi : i < 4) (h : vss[i]? = some vs) (M : Mem) (hM : M.length = m.length) : (M ++ vlists m.length)[m.length + i]? = some (.lst vs) := by
  rw [List.getElem?_append_right (by omega), hM, Nat.add_sub_cancel_left]
  have : i = 0 ∨ i = 1 ∨ i = 2 ∨ i = 3 := by omega
  rcases this with rfl | rfl | rfl | rfl <;> (simp only [vss, List.getElem?_cons_zero, List.getElem?_cons_succ, Option.some.injEq] at h; subst h; rfl)
theorem vl_cl {m : Mem} (h : ClM m) : ClM (m ++ vlists m.length) := by
  intro o ho
  rw [List.length_append]
  rcases List.mem_append.mp ho with ho | ho
  · exact closedO_mono (by simp) o (h o ho)
  · simp only [vlists, List.mem_cons, List.not_mem_nil, or_false] at ho
    rcases ho with rfl | rfl | rfl | rfl | rfl
    · rfl
    · rfl
    · rfl
    · rfl
    · simp [closedO, closeds, closed]
/-- what is drawn for a case -/
theorem draws34 (n l : Nat) (a b c : Int) (m : Mem) (hm : m[l]? = some (bag a b c)) (hcl : ClM m) : ∃ q V T A B C F vs a1 b1 a2 b2 a3 b3 a4 b4, vs ∈ vss ∧ GC T A B ∧ GC (chgBy T A B) C F ∧ T.length ≤ 9 ∧ A.length ≤ 9 ∧ B.length ≤ 3 ∧ C.length ≤ 12 ∧ F.length ≤ 3 ∧ (∀ r ∈ T, madeB vs r) ∧ (∀ r ∈ chgBy T A B, madeB vs r) ∧
    e34_0 (run ds (n + 9)) [some (.loc l), none, none, none, none, none, none, none, none, none, none, none, none, none, none, none, none, none] m = .next (E l q none none none none none none none none none none none none) (m.set l (bag a1 b1 c) ++ V) ∧
    run ds (n + 9) 28 [.loc l, .loc q, .int 9] (m.set l (bag a1 b1 c) ++ V) = .ok (tab T) (m.set l (bag a2 b2 c) ++ V) ∧
    run ds (n + 9) 30 [.loc l, tab T, .loc q] (m.set l (bag a2 b2 c) ++ V) = .ok (chg A B) (m.set l (bag a3 b3 c) ++ V) ∧
    run ds (n + 9) 30 [.loc l, tab (chgBy T A B), .loc q] (m.set l (bag a3 b3 c) ++ V) = .ok (chg C F) (m.set l (bag a4 b4 c) ++ V) ∧ ClM (m.set l (bag a4 b4 c) ++ V) := by
  have z := sizeLine_is
  have hlt : l < m.length := (List.getElem?_eq_some_iff.mp hm).1
  obtain ⟨i, vs, a1, b1, hi, hvs, h26⟩ := s26 (n + 6) l a b c m hm
  have hin : vs ∈ vss := List.mem_of_getElem? hvs
  obtain ⟨hv0, hvl, hvi, hvv⟩ := vss_ok hin
  have hss : ∀ a b a' b' x, (m.set l (bag a b c) ++ x).set l (bag a' b' c) = m.set l (bag a' b' c) ++ x := fun a b a' b' x => by
    rw [set_app_len (by simpa using hlt), List.set_set]
  have hL : ∀ a b x, (m.set l (bag a b c) ++ x)[l]? = some (bag a b c) := fun a b x => by
    rw [List.getElem?_append_left (by simpa using hlt)]; simp [hlt]
  have hQ : ∀ a b, (m.set l (bag a b c) ++ vlists m.length)[m.length + i]? = some (.lst vs) := fun a b => vl_get hi hvs _ (by simp)
  have hC : ∀ a b, ClM (m.set l (bag a b c) ++ vlists m.length) := fun a b => by
    have := vl_cl (hcl.set l a b c)
    rwa [List.length_set] at this
  have hne : m.length + i ≠ l := by omega
  have hgl : ∀ (v : D) a b a' b' x, gcO (m.set l (bag a b c) ++ x) (.ok v (m.set l (bag a' b' c) ++ x)) = .ok v (m.set l (bag a' b' c) ++ x) := fun v a b a' b' x => gcO_len (by simp)
  -- the first five
  have h0 : e34_0 (run ds (n + 9)) [some (.loc l), none, none, none, none, none, none, none, none, none, none, none, none, none, none, none, none, none] m = .next (E l (m.length + i) none none none none none none none none none none none none) (m.set l (bag a1 b1 c) ++ vlists m.length) := by
    have hg : ∀ mm, gcO m (.ok (.loc (m.length + i)) mm) = .ok (.loc (m.length + i)) mm := fun mm => by
      simp [gcO, closed]
      omega
    simp only [vlists] at h26 ⊢
    simp [e34_0, h26, hg]
  obtain ⟨ks, a2, b2, nd, hmk, hkl, h28⟩ := s28 (n + 5) l (m.length + i) a1 b1 c 9 vs (m.set l (bag a1 b1 c) ++ vlists m.length) (hL _ _ _) (hQ _ _) hne (hC _ _) hv0 (by omega) hvi hvv (by omega)
  have h28' : run ds (n + 9) 28 [.loc l, .loc (m.length + i), .int 9] (m.set l (bag a1 b1 c) ++ vlists m.length) = .ok (tab (sortD ks)) (m.set l (bag a2 b2 c) ++ vlists m.length) := by
    rw [hss] at h28
    exact h28
  have hT := TB.made hvv nd hmk
  have hTm : ∀ r ∈ sortD ks, madeB vs r := fun r hr => hmk r (sort_mem.mp hr)
  have hTl : (sortD ks).length ≤ 9 := by rw [sort_len]; exact hkl
  generalize sortD ks = T at *
  clear h28 nd hmk hkl
  obtain ⟨A, ks2, a3, b3, hsub, nd2, hmk2, hkl2, h30⟩ := s30 (n + 4) l (m.length + i) a2 b2 c T vs (m.set l (bag a2 b2 c) ++ vlists m.length) (hL _ _ _) (hQ _ _) hne (hC _ _) hv0 (by omega) hvi hvv hT.rows (by omega)
  rw [hss] at h30
  have hB := TB.made hvv nd2 fun r hr => (hmk2 r hr).1
  have hBm : ∀ r ∈ sortD ks2, madeB vs r ∧ r ∉ T := fun r hr => hmk2 r (sort_mem.mp hr)
  have hBl : (sortD ks2).length ≤ 3 := by rw [sort_len]; exact hkl2
  generalize sortD ks2 = B at *
  clear nd2 hmk2 hkl2
  have hAl : A.length ≤ T.length := hsub.length_le
  have g : GC T A B := ⟨hT, hT.sub hsub, hB, fun d hd => hsub.mem hd, fun d hd => (hBm d hd).2, by omega⟩
  obtain ⟨hY, hYl⟩ := g.out
  have hYm : ∀ r ∈ chgBy T A B, madeB vs r := fun r hr => by
    rcases chg_mem.mp hr with h | h
    · exact hTm r h.1
    · exact (hBm r h).1
  obtain ⟨C, ks3, a4, b4, hsub3, nd3, hmk3, hkl3, h30'⟩ := s30 (n + 4) l (m.length + i) a3 b3 c (chgBy T A B) vs (m.set l (bag a3 b3 c) ++ vlists m.length) (hL _ _ _) (hQ _ _) hne (hC _ _) hv0 (by omega) hvi hvv hY.rows (by omega)
  rw [hss] at h30'
  have hF := TB.made hvv nd3 fun r hr => (hmk3 r hr).1
  have hFm : ∀ r ∈ sortD ks3, madeB vs r ∧ r ∉ chgBy T A B := fun r hr => hmk3 r (sort_mem.mp hr)
  have hFl : (sortD ks3).length ≤ 3 := by rw [sort_len]; exact hkl3
  generalize sortD ks3 = F at *
  clear nd3 hmk3 hkl3
  have hCl : C.length ≤ (chgBy T A B).length := hsub3.length_le
  have g2 : GC (chgBy T A B) C F := ⟨hY, hY.sub hsub3, hF, fun d hd => hsub3.mem hd, fun d hd => (hFm d hd).2, by omega⟩
  obtain ⟨hZ, hZl⟩ := g2.out
  have hYl' := hYl
  exact ⟨m.length + i, vlists m.length, T, A, B, C, F, vs, a1, b1, a2, b2, a3, b3, a4, b4, hin, g, g2, hTl, by omega, hBl, by omega, hFl, hTm, hYm, h0, h28', h30, h30', hC _ _⟩
theorem seq_step {sa sb : DenS} {fe : FE} {ρ ρ' : Env} {m m' : Mem} {r : OutS} (h : sa fe ρ m = .next ρ' m') (g : sb fe ρ' m' = r) : sSeq sa sb fe ρ m = r := by rw [sSeq_ev, h, seq_next, g]
theorem s34 (n l : Nat) (a b c : Int) (m : Mem) (hm : m[l]? = some (bag a b c)) (hcl : ClM m) : ∃ a' b', run ds (n + 10) 34 [.loc l] m = .ok (.bl true) (m.set l (bag a' b' c)) := by
  have hlt : l < m.length := (List.getElem?_eq_some_iff.mp hm).1
  have hss : ∀ a b a' b' x, (m.set l (bag a b c) ++ x).set l (bag a' b' c) = m.set l (bag a' b' c) ++ x := fun a b a' b' x => by
    rw [set_app_len (by simpa using hlt), List.set_set]
  have hL : ∀ a b x, (m.set l (bag a b c) ++ x)[l]? = some (bag a b c) := fun a b x => by
    rw [List.getElem?_append_left (by simpa using hlt)]; simp [hlt]
  have hgl : ∀ (v : D) a b a' b' x, gcO (m.set l (bag a b c) ++ x) (.ok v (m.set l (bag a' b' c) ++ x)) = .ok v (m.set l (bag a' b' c) ++ x) := fun v a b a' b' x => gcO_len (by simp)
  obtain ⟨q, V, T, A, B, C, F, vs, a1, b1, a2, b2, a3, b3, a4, b4, hin, g, g2, hTl, hAl, hBl, hCl, hFl, hTm, hYm, h0, h28', h30, h30', hC⟩ := draws34 n l a b c m hm hcl
  obtain ⟨hY, hYl⟩ := g.out
  obtain ⟨hZ, hZl⟩ := g2.out
  have hT := g.t
  have h31 := fun m => s31 (n + 8) T A B m hT.rows (by omega) g.a.rows g.b.rows (by omega)
  have h31' := fun m => s31 (n + 8) (chgBy T A B) C F m hY.rows (by omega) g2.a.rows g2.b.rows (by omega)
  -- the steps
  have h1 : e34_1 (run ds (n + 9)) (E l (q) none none none none none none none none none none none none) (m.set l (bag a1 b1 c) ++ V) = .next (E l (q) (some (tab T)) none none none none none none none none none none none) (m.set l (bag a2 b2 c) ++ V) := by
    simp [e34_1, h28', hgl]
  have h2 : e34_2 (run ds (n + 9)) (E l (q) (some (tab T)) none none none none none none none none none none none) (m.set l (bag a2 b2 c) ++ V) = .next (E l (q) (some (tab T)) (some (chg A B)) none none none none none none none none none none) (m.set l (bag a3 b3 c) ++ V) := by
    simp [e34_2, h30, hgl]
  have h3 : e34_3 (run ds (n + 9)) (E l (q) (some (tab T)) (some (chg A B)) none none none none none none none none none none) (m.set l (bag a3 b3 c) ++ V) = .next (E l (q) (some (tab T)) (some (chg A B)) (some (tab (chgBy T A B))) none none none none none none none none none) (m.set l (bag a3 b3 c) ++ V) := by
    simp [e34_3, h31]
  have h4 := h34_4 (l := l) (q := q) (o5 := none) (o6 := none) (o7 := none) (o8 := none) (o9 := none) (o10 := none) (o11 := none) (o12 := none) (o13 := none) (M := m.set l (bag a3 b3 c) ++ V) n g (by omega) (by omega) (by omega)
  have h5 := h34_5 (l := l) (q := q) (o5 := none) (o6 := none) (o7 := none) (o8 := none) (o9 := none) (o10 := none) (o11 := none) (o12 := none) (o13 := none) (M := m.set l (bag a3 b3 c) ++ V) n g (by omega)
  have h6 : e34_6 (run ds (n + 9)) (E l (q) (some (tab T)) (some (chg A B)) (some (tab (chgBy T A B))) none none none none none none none none none) (m.set l (bag a3 b3 c) ++ V) = .next (E l (q) (some (tab T)) (some (chg A B)) (some (tab (chgBy T A B))) (some (chg C F)) none none none none none none none none) (m.set l (bag a4 b4 c) ++ V) := by
    simp [e34_6, h30', hgl]
  have h7 : e34_7 (run ds (n + 9)) (E l (q) (some (tab T)) (some (chg A B)) (some (tab (chgBy T A B))) (some (chg C F)) none none none none none none none none) (m.set l (bag a4 b4 c) ++ V) = .next (E l (q) (some (tab T)) (some (chg A B)) (some (tab (chgBy T A B))) (some (chg C F)) (some (tab (chgBy (chgBy T A B) C F))) none none none none none none none) (m.set l (bag a4 b4 c) ++ V) := by
    simp [e34_7, h31']
  have h8 := h34_8 (l := l) (q := q) (o3 := some (chg A B)) (o4 := some (tab (chgBy T A B))) (o5 := some (chg C F)) (o7 := none) (o8 := none) (o9 := none) (o10 := none) (o11 := none) (o12 := none) (o13 := none) (M := m.set l (bag a4 b4 c) ++ V) n hT hZ (by omega) (by omega)
  have h9 := h34_9 (l := l) (q := q) (o4 := some (tab (chgBy T A B))) (o8 := none) (o9 := none) (o10 := none) (o11 := none) (o12 := none) (o13 := none) (M := m.set l (bag a4 b4 c) ++ V) n g g2 (by omega) (by omega) (by omega) (by omega) (by omega)
  have h10 := h34_10 (l := l) (q := q) (o3 := some (chg A B)) (o5 := some (chg C F)) (o6 := some (tab (chgBy (chgBy T A B) C F))) (o7 := some (chg (outOf T (chgBy (chgBy T A B) C F)) (outOf (chgBy (chgBy T A B) C F) T))) (o8 := none) (o9 := none) (o10 := none) (o11 := none) (o12 := none) (o13 := none) (M := m.set l (bag a4 b4 c) ++ V) n hT hY (by omega)
  have h11 := h34_11 (l := l) (q := q) (o4 := some (tab (chgBy T A B))) (o5 := some (chg C F)) (o6 := some (tab (chgBy (chgBy T A B) C F))) (o7 := some (chg (outOf T (chgBy (chgBy T A B) C F)) (outOf (chgBy (chgBy T A B) C F) T))) (o9 := none) (o10 := none) (o11 := none) (o12 := none) (o13 := none) (M := m.set l (bag a4 b4 c) ++ V) n g (by omega) (by omega) (by omega)
  obtain ⟨a5, b5, X, p10, p11, p12, p13, h12, hX⟩ := h34_12 (l := l) (q := q) (o4 := some (tab (chgBy T A B))) (o5 := some (chg C F)) (o6 := some (tab (chgBy (chgBy T A B) C F))) (o7 := some (chg (outOf T (chgBy (chgBy T A B) C F)) (outOf (chgBy (chgBy T A B) C F) T))) (o9 := none) (o10 := none) (o11 := none) (o12 := none) (o13 := none) (M := m.set l (bag a4 b4 c) ++ V) n g (by omega) (by omega) (by omega) (hL _ _ _) hC
  rw [hss, List.append_assoc] at h12 hX
  generalize V ++ X = V2 at *
  have h13 := h34_13 (l := l) (q := q) (o3 := some (chg A B)) (o4 := some (tab (chgBy T A B))) (o5 := some (chg C F)) (o6 := some (tab (chgBy (chgBy T A B) C F))) (o7 := some (chg (outOf T (chgBy (chgBy T A B) C F)) (outOf (chgBy (chgBy T A B) C F) T))) (o8 := some (.tup (T.map (numD (chgBy T A B))))) (o9 := none) (o10 := p10) (o11 := p11) (o12 := p12) (o13 := p13) n hT hX
  have h14 := h34_14 (l := l) (q := q) (o3 := some (chg A B)) (o4 := some (tab (chgBy T A B))) (o5 := some (chg C F)) (o6 := some (tab (chgBy (chgBy T A B) C F))) (o7 := some (chg (outOf T (chgBy (chgBy T A B) C F)) (outOf (chgBy (chgBy T A B) C F) T))) (o8 := some (.tup (T.map (numD (chgBy T A B))))) (o10 := p10) (o11 := p11) (o12 := p12) (o13 := p13) n hT hX
  have hod : ∀ o, ((m.set l (bag a5 b5 c) ++ V2) ++ [.lst [], o])[(m.set l (bag a5 b5 c) ++ V2).length + 1]? = some o := fun o => by
    rw [List.getElem?_append_right (by omega)]; simp
  have hk : ∀ o x, (((m.set l (bag a5 b5 c) ++ V2) ++ [.lst [], o]) ++ x)[(m.set l (bag a5 b5 c) ++ V2).length]? = some (.lst []) := fun o x => by
    rw [List.append_assoc, List.getElem?_append_right (by omega)]; simp
  have h15 := h34_15 (l := l) (q := q) (o3 := some (chg A B)) (o4 := some (tab (chgBy T A B))) (o5 := some (chg C F)) (o6 := some (tab (chgBy (chgBy T A B) C F))) (o7 := some (chg (outOf T (chgBy (chgBy T A B) C F)) (outOf (chgBy (chgBy T A B) C F) T))) (o8 := some (.tup (T.map (numD (chgBy T A B))))) (o10 := p10) (o11 := p11) (o12 := p12) (o13 := p13) n hT (by omega) (hod (.lst (odds (m.set l (bag a5 b5 c) ++ V2).length T))) (by simp [odds]) fun o ho x => odds_no hT (by omega) hTm hin (hk _ x) o ho
  have h16 := h34_16 (l := l) (q := q) (o4 := some (tab (chgBy T A B))) (o5 := some (chg C F)) (o6 := some (tab (chgBy (chgBy T A B) C F))) (o7 := some (chg (outOf T (chgBy (chgBy T A B) C F)) (outOf (chgBy (chgBy T A B) C F) T))) (o8 := some (.tup (T.map (numD (chgBy T A B))))) (o9 := some (.loc ((m.set l (bag a5 b5 c) ++ V2).length + 1))) (o10 := p10) (o11 := p11) (o12 := p12) (o13 := p13) (M := (m.set l (bag a5 b5 c) ++ V2) ++ [.lst [], .lst (odds (m.set l (bag a5 b5 c) ++ V2).length T)]) n hT (by omega) (chg A B)
  have h17 := h34_17 (l := l) (q := q) (o4 := some (tab (chgBy T A B))) (o5 := some (chg C F)) (o6 := some (tab (chgBy (chgBy T A B) C F))) (o7 := some (chg (outOf T (chgBy (chgBy T A B) C F)) (outOf (chgBy (chgBy T A B) C F) T))) (o8 := some (.tup (T.map (numD (chgBy T A B))))) (o10 := p10) (o11 := p11) (o12 := p12) (o13 := p13) n g (by omega) (by omega) (by omega) (fun m => no_zz hY (by omega) hYm hin) (hod (.lst (odds (m.set l (bag a5 b5 c) ++ V2).length T))) rfl
  refine ⟨a5, b5, ?_⟩
  have hg : ∀ x, gcO m (.ok (.bl true) (m.set l (bag a5 b5 c) ++ x)) = .ok (.bl true) (m.set l (bag a5 b5 c)) := fun x => gc_set hcl x rfl
  have hall := seq_step h0 (seq_step h1 (seq_step h2 (seq_step h3 (seq_step h4 (seq_step h5 (seq_step h6 (seq_step h7 (seq_step h8 (seq_step h9 (seq_step h10 (seq_step h11 (seq_step h12 (seq_step h13 (seq_step h14 (seq_step h15 (seq_step h16 h17))))))))))))))))
  rw [← ed34, List.append_assoc] at hall
  rw [r34]
  show gcO m (bodyD 1 18 d34 (run ds (n + 9)) [.loc l] m) = _
  rw [bodyD_ev (by rfl)]
  have hall' : d34 (run ds (n + 9)) (List.map some [D.loc l] ++ List.replicate (18 - 1) none) m = _ := hall
  rw [hall']
  exact hg _
end K60
end Mn
set_option Elab.async false
set_option linter.all false
set_option maxRecDepth 100000
set_option maxHeartbeats 1000000
namespace Mn
namespace K60
open PySem
def e35_0 : DenS := sSet 1 (xGc (xTup (aCons (xLit (.str "tables")) (aCons (xTup (aCons (xTup (aCons (xLit (.str "e")) (aCons (xTup (aCons (xLit (.str "a")) (aCons (xLit (.str "b")) (aNil)))) (aNil)))) (aNil))) (aNil)))))
def e35_1 : DenS := sIf (tGc (tOo (tB (xBin opNe (xCall 32 (aCons (xLit (.fn 18)) (aCons (xTup (aCons (xVar 1) (aCons (xTup (aCons (xLit (.str "change")) (aCons (xBin opIx (xVar 1) (xLit (.int 1))) (aCons (xTup (aNil)) (aNil))))) (aCons (xTup (aCons (xLit (.str "change")) (aCons (xTup (aNil)) (aCons (xTup (aCons (xTup (aCons (xLit (.str "e")) (aCons (xTup (aCons (xLit (.str "a")) (aNil))) (aNil)))) (aNil))) (aNil))))) (aNil))))) (aNil)))) (xLit (.str "none")))) (tB (xBin opNe (xCall 18 (aCons (xVar 1) (aCons (xTup (aCons (xLit (.str "change")) (aCons (xBin opIx (xVar 1) (xLit (.int 1))) (aCons (xTup (aNil)) (aNil))))) (aCons (xTup (aCons (xLit (.str "change")) (aCons (xTup (aNil)) (aCons (xBin opIx (xVar 1) (xLit (.int 1))) (aNil))))) (aNil))))) (xTup (aCons (xLit (.str "change")) (aCons (xTup (aNil)) (aCons (xTup (aNil)) (aNil))))))))) (sRet (xGc (xLit (.bl false)))) (sNil)
def e35_2 : DenS := sFor (iRange1 (aCons (xCallF bMin (aCons (xCallF bMax (aCons (xCallF bLen (aCons (xVar 0) (aNil))) (aCons (xLit (.int 1)) (aNil)))) (aCons (xLit (.int 5)) (aNil)))) (aNil))) (.nm 2) (sIf (tGc (tNt (tVal (xCall 34 (aCons (xCall 23 (aCons (xVar 0) (aCons (xVar 2) (aNil)))) (aNil)))))) (sRet (xGc (xLit (.bl false)))) (sNil))
def e35_3 : DenS := sRet (xGc (xLit (.bl true)))
theorem ed35 : d35 = sSeq e35_0 (sSeq e35_1 (sSeq e35_2 (e35_3))) := rfl
theorem sort0 : sortD [] = [] := by simp [sortD]
theorem sort1 (x : D) : sortD [x] = [x] := by simp [sortD]
abbrev rE : D := .tup [.str "e", .tup [.str "a", .str "b"]]
abbrev rS : D := .tup [.str "e", .tup [.str "a"]]
theorem rE_row : rowB rE = true := by decide +kernel
theorem rS_row : rowB rS = true := by decide +kernel
theorem one_tab {r : D} (h : rowB r = true) : tabB [r] = true := by
  obtain ⟨z, vs, rfl, _⟩ := row_shape h
  simp [tabB, h, ascD, fitB, fitGo, dGet]
theorem nil_tab : tabB [] = true := by decide
theorem rows_one {r : D} (h : rowB r = true) : rowsB [r] = true := by simp [rowsB, h, ascD]
theorem rows_nil : rowsB [] = true := by decide
theorem goes_a : goesB [rE] [rE] [] = true := by
  simp [goesB, rows_one rE_row, rows_nil, sort1, one_tab rE_row]
theorem chg_a : chgBy [rE] [rE] [] = [] := by simp [chgBy, sort0]
theorem goes_b {r : D} (h : rowB r = true) : goesB [] [] [r] = true := by simp [goesB, rows_one h, rows_nil, sort1, one_tab h]
theorem chg_b (r : D) : chgBy [] [] [r] = [r] := by simp [chgBy, sort1]
theorem rES : (rE = rS) = False := by
  simp only [eq_iff_iff, iff_false]
  intro h
  simp at h
theorem goes_c : goesB [rE] [rE] [rS] = false := by
  have : fitB (sortD ([rE] ++ [rS])) = false := no_fit (z := .str "e") (vs := [.str "a", .str "b"]) (ws := [.str "a"]) (sort_mem.mpr (by simp)) (sort_mem.mpr (by simp)) (by simp)
  simp only [List.cons_append, List.nil_append] at this
  simp [goesB, tabB, this]
theorem goes_d : goesB [rE] [] [] = true := by simp [goesB, rows_nil, sort1, one_tab rE_row]
theorem both1 (n : Nat) (m : Mem) : run ds (n + 8) 32 [.fn 18, .tup [tab [rE], chg [rE] [], chg [] [rS]]] m = .ok (.str "none") m := by
  have hr : [rE].all rowB = true := by simp [rE_row]
  have h := s18 n [rE] [rE] [] [] [rS] m hr (by simp) (one_tab rE_row) goes_a (by simp) (by simp) (by rw [chg_a]; exact goes_b rS_row) (by simp) (by simp)
  rw [chg_a, chg_b] at h
  have e1 : outOf [rE] [rS] = [rE] := by simp [outOf]
  have e2 : outOf [rS] [rE] = [rS] := by simp [outOf]
  rw [e1, e2, goes_c] at h
  exact s32_3 (n + 7) 18 _ _ _ m 5 none (.str "none") h rfl
theorem both2 (n : Nat) (m : Mem) : run ds (n + 7) 18 [tab [rE], chg [rE] [], chg [] [rE]] m = .ok (chg [] []) m := by
  have hr : [rE].all rowB = true := by simp [rE_row]
  have h := s18 n [rE] [rE] [] [] [rE] m hr (by simp) (one_tab rE_row) goes_a (by simp) (by simp) (by rw [chg_a]; exact goes_b rE_row) (by simp) (by simp)
  rw [chg_a, chg_b] at h
  have e1 : outOf [rE] [rE] = [] := by simp [outOf]
  rw [e1, goes_d] at h
  exact h
theorem none_ok : PyData.strOk ("none" : Str) = true := by decide +kernel
theorem h35_1 (n : Nat) (o0 o2 : Option D) (m : Mem) : e35_1 (run ds (n + 9)) [o0, some (tab [rE]), o2] m = .next [o0, some (tab [rE]), o2] m := by
  have e1 := fun m => opNe_self (m := m) (d := .str "none") (by simp [pureD, none_ok])
  have e2 := fun m => opNe_self (m := m) (d := chg [] []) (chg_pure rfl rfl)
  have b1 := fun m => both1 (n + 1) m
  have b2 := fun m => both2 (n + 2) m
  simp [e35_1, opIx, b1, b2, e1, e2]
def b35b : DenS := sIf (tGc (tNt (tVal (xCall 34 (aCons (xCall 23 (aCons (xVar 0) (aCons (xVar 2) (aNil)))) (aNil)))))) (sRet (xGc (xLit (.bl false)))) (sNil)
theorem ed35_2 : e35_2 = sFor (iRange1 (aCons (xCallF bMin (aCons (xCallF bMax (aCons (xCallF bLen (aCons (xVar 0) (aNil))) (aCons (xLit (.int 1)) (aNil)))) (aCons (xLit (.int 5)) (aNil)))) (aNil))) (.nm 2) b35b := rfl
theorem rangeD_mem {k : Nat} {x : D} (h : x ∈ rangeD 0 k) : ∃ j : Nat, x = .int j ∧ j < k := by
  simp only [rangeD, List.mem_map] at h
  obtain ⟨j, hj, rfl⟩ := h
  simp at hj
  exact ⟨j, by simp, by omega⟩
theorem turn35 (n : Nat) (ns : List Int) (j : Nat) (hj : j ≤ 63) (o1 : Option D) : b35b (run ds (n + 10)) [some (.seq (ns.map D.int)), o1, some (.int j)] [] = .next [some (.seq (ns.map D.int)), o1, some (.int j)] [] := by
  obtain ⟨a, b, c, h23⟩ := s23 (n + 9) ns j hj []
  simp only [List.length_nil, List.nil_append] at h23
  obtain ⟨a', b', h34⟩ := s34 n 0 a b c [bag a b c] rfl (by
    intro o ho
    rw [List.mem_singleton.mp ho]
    exact bag_closed)
  simp [b35b, h23, h34, truth, gcB, cutOk]
theorem h35_2 (n : Nat) (ns : List Int) (o1 o2 : Option D) : ∃ o2', e35_2 (run ds (n + 10)) [some (.seq (ns.map D.int)), o1, o2] [] = .next [some (.seq (ns.map D.int)), o1, o2'] [] := by
  obtain ⟨k, hk, hk5⟩ : ∃ k : Nat, min (max (ns.length : Int) 1) 5 = (k : Int) ∧ k ≤ 5 := ⟨(min (max (ns.length : Int) 1) 5).toNat, by omega, by omega⟩
  have hit : iRange1 (aCons (xCallF bMin (aCons (xCallF bMax (aCons (xCallF bLen (aCons (xVar 0) (aNil))) (aCons (xLit (.int 1)) (aNil)))) (aCons (xLit (.int 5)) (aNil)))) (aNil)) (run ds (n + 10)) [some (.seq (ns.map D.int)), o1, o2] [] = .ok ⟨rangeD 0 k, [], none⟩ [] :=
    irange1_ev (by omega) (by simp [bLen, bMax, bMin, hk])
  obtain ⟨h1, _⟩ := sFor_check (fe := run ds (n + 10)) (p := .nm 2) (b := b35b) (fun _ => true) (fun ρ => ∃ o2', ρ = [some (.seq (ns.map D.int)), o1, o2']) hit rfl ⟨o2, rfl⟩ (by
    rintro x hx ρ ⟨o2', rfl⟩
    obtain ⟨j, rfl, hj⟩ := rangeD_mem hx
    refine ⟨_, rfl, fun _ => ⟨_, turn35 n ns j (by omega) o1, _, rfl⟩, fun h => by cases h⟩)
  obtain ⟨ρ', h2, o2', rfl⟩ := h1 (by simp)
  exact ⟨o2', by rw [ed35_2]; exact h2⟩
theorem law_true (ns : List Int) (h : ns.length ≤ 63) : ∃ m', run ds 25 35 [.seq (ns.map D.int)] [] = .ok (.bl true) m' := by
  refine ⟨[], ?_⟩
  have h0 : e35_0 (run ds 24) [some (.seq (ns.map D.int)), none, none] [] = .next [some (.seq (ns.map D.int)), some (tab [rE]), none] [] := by
    simp [e35_0]
  obtain ⟨o2', h2⟩ := h35_2 14 ns (some (tab [rE])) none
  have h3 : ∀ ρ, e35_3 (run ds 24) ρ [] = .ret (.bl true) [] := fun ρ => by simp [e35_3]
  have hall := seq_step h0 (seq_step (h35_1 15 _ none []) (seq_step h2 (h3 _)))
  rw [← ed35] at hall
  rw [r35]
  show gcO [] (bodyD 1 3 d35 (run ds 24) [.seq (ns.map D.int)] []) = _
  rw [bodyD_ev (by rfl)]
  have hall' : d35 (run ds 24) (List.map some [D.seq (ns.map D.int)] ++ List.replicate (3 - 1) none) [] = _ := hall
  rw [hall']
  exact gcO_same
end K60
end Mn
set_option Elab.async false
set_option linter.all false
set_option maxRecDepth 100000
set_option maxHeartbeats 4000000
open PySem PySem.W PyProof.Rows in
set_option maxRecDepth 100000 in
set_option maxHeartbeats 0 in
theorem PySem.Challenge.cw_whyanswers_k60_changes_of_tables_holds : PySem.Challenge.rw_whyanswers_k60_changes_of_tables.Holds := by
  w_on; o_law; k_head; (case hw => w_witness2)
  k_fill
  refine Mn.walk (l := PySem.Challenge.rw_whyanswers_k60_changes_of_tables) (T := Mn.K60.tx) (ds := Mn.K60.ds) (n := 24) (j := 35) (d := Mn.K60.n35) (x := "script") rfl rfl ⟨rfl, by decide, by decide⟩ (fun w h Y => PySem.W.kIn_of Y) Mn.K60.ds_ok rfl rfl rfl ?F Mn.K60.law_true
  case F =>
    intro w mg h KX G
    open Mn Mn.K60 L2 in
    refine' top_mk [_, _, _, _, _, _, _, _, _, _, _, _, _, _, _, _, _, _, _, _, _, _, _, _, _, _, _, _, _, _, _, _, _, _, _, _] [_, _, _, _, _, _, _] rfl ⟨DefAt.of KX G bd0 ?mn_a0 ?mn_l0 ?mn_c0 ?mn_k0, DefAt.of KX G bd1 ?mn_a1 ?mn_l1 ?mn_c1 ?mn_k1, DefAt.of KX G bd2 ?mn_a2 ?mn_l2 ?mn_c2 ?mn_k2, DefAt.of KX G bd3 ?mn_a3 ?mn_l3 ?mn_c3 ?mn_k3, DefAt.of KX G bd4 ?mn_a4 ?mn_l4 ?mn_c4 ?mn_k4, DefAt.of KX G bd5 ?mn_a5 ?mn_l5 ?mn_c5 ?mn_k5, DefAt.of KX G bd6 ?mn_a6 ?mn_l6 ?mn_c6 ?mn_k6, DefAt.of KX G bd7 ?mn_a7 ?mn_l7 ?mn_c7 ?mn_k7, DefAt.of KX G bd8 ?mn_a8 ?mn_l8 ?mn_c8 ?mn_k8, DefAt.of KX G bd9 ?mn_a9 ?mn_l9 ?mn_c9 ?mn_k9, DefAt.of KX G bd10 ?mn_a10 ?mn_l10 ?mn_c10 ?mn_k10, DefAt.of KX G bd11 ?mn_a11 ?mn_l11 ?mn_c11 ?mn_k11, DefAt.of KX G bd12 ?mn_a12 ?mn_l12 ?mn_c12 ?mn_k12, DefAt.of KX G bd13 ?mn_a13 ?mn_l13 ?mn_c13 ?mn_k13, DefAt.of KX G bd14 ?mn_a14 ?mn_l14 ?mn_c14 ?mn_k14, DefAt.of KX G bd15 ?mn_a15 ?mn_l15 ?mn_c15 ?mn_k15, DefAt.of KX G bd16 ?mn_a16 ?mn_l16 ?mn_c16 ?mn_k16, DefAt.of KX G bd17 ?mn_a17 ?mn_l17 ?mn_c17 ?mn_k17, DefAt.of KX G bd18 ?mn_a18 ?mn_l18 ?mn_c18 ?mn_k18, DefAt.of KX G bd19 ?mn_a19 ?mn_l19 ?mn_c19 ?mn_k19, DefAt.of KX G bd20 ?mn_a20 ?mn_l20 ?mn_c20 ?mn_k20, DefAt.of KX G bd21 ?mn_a21 ?mn_l21 ?mn_c21 ?mn_k21, DefAt.of KX G bd22 ?mn_a22 ?mn_l22 ?mn_c22 ?mn_k22, DefAt.of KX G bd23 ?mn_a23 ?mn_l23 ?mn_c23 ?mn_k23, DefAt.of KX G bd24 ?mn_a24 ?mn_l24 ?mn_c24 ?mn_k24, DefAt.of KX G bd25 ?mn_a25 ?mn_l25 ?mn_c25 ?mn_k25, DefAt.of KX G bd26 ?mn_a26 ?mn_l26 ?mn_c26 ?mn_k26, DefAt.of KX G bd27 ?mn_a27 ?mn_l27 ?mn_c27 ?mn_k27, DefAt.of KX G bd28 ?mn_a28 ?mn_l28 ?mn_c28 ?mn_k28, DefAt.of KX G bd29 ?mn_a29 ?mn_l29 ?mn_c29 ?mn_k29, DefAt.of KX G bd30 ?mn_a30 ?mn_l30 ?mn_c30 ?mn_k30, DefAt.of KX G bd31 ?mn_a31 ?mn_l31 ?mn_c31 ?mn_k31, DefAt.of KX G bd32 ?mn_a32 ?mn_l32 ?mn_c32 ?mn_k32, DefAt.of KX G bd33 ?mn_a33 ?mn_l33 ?mn_c33 ?mn_k33, DefAt.of KX G bd34 ?mn_a34 ?mn_l34 ?mn_c34 ?mn_k34, DefAt.of KX G bd35 ?mn_a35 ?mn_l35 ?mn_c35 ?mn_k35, trivial⟩ ⟨PySem.W.mg_none_of KX G ?mn_z0, PySem.W.mg_none_of KX G ?mn_z1, PySem.W.mg_none_of KX G ?mn_z2, PySem.W.mg_none_of KX G ?mn_z3, PySem.W.mg_none_of KX G ?mn_z4, PySem.W.mg_none_of KX G ?mn_z5, PySem.W.mg_none_of KX G ?mn_z6, PySem.W.mg_none_of KX G ?mn_z7, PySem.W.mg_none_of KX G ?mn_z8, PySem.W.mg_none_of KX G ?mn_z9, PySem.W.mg_none_of KX G ?mn_z10, PySem.W.mg_none_of KX G ?mn_z11, PySem.W.mg_none_of KX G ?mn_z12, PySem.W.mg_none_of KX G ?mn_z13, trivial⟩ ⟨CnAt.of KX G ?mn_g0 ?mn_h0, CnAt.of KX G ?mn_g1 ?mn_h1, CnAt.of KX G ?mn_g2 ?mn_h2, CnAt.of KX G ?mn_g3 ?mn_h3, CnAt.of KX G ?mn_g4 ?mn_h4, CnAt.of KX G ?mn_g5 ?mn_h5, trivial⟩ ⟨ExAt.plain KX G ?mn_Ca0 ?mn_Ck0 ?mn_Cs0 ?mn_Ct0 ?mn_Cq0, ExAt.plain KX G ?mn_Ca1 ?mn_Ck1 ?mn_Cs1 ?mn_Ct1 ?mn_Cq1, ExAt.plain KX G ?mn_Ca2 ?mn_Ck2 ?mn_Cs2 ?mn_Ct2 ?mn_Cq2, ExAt.plain KX G ?mn_Ca3 ?mn_Ck3 ?mn_Cs3 ?mn_Ct3 ?mn_Cq3, ExAt.init (q := "BadPaper.__init__") (st := inClass (top 5) 0) KX G sc_BadPaper rfl (fun _ _ _ _ _ _ us hl => match us, hl with | [_, _], _ => rfl) ?mn_Ca4 ?mn_Ck4 ?mn_Cs4 ?mn_Ct4 ?mn_CL4 ?mn_Cr4 ?mn_CA4 ?mn_CB4 ?mn_CC4 ?mn_CD4 ?mn_CE4 ?mn_CF4 ?mn_CG4 ?mn_CH4 ?mn_CI4 ?mn_CJ4, ExAt.plain KX G ?mn_Ca5 ?mn_Ck5 ?mn_Cs5 ?mn_Ct5 ?mn_Cq5, ExAt.plain KX G ?mn_Ca6 ?mn_Ck6 ?mn_Cs6 ?mn_Ct6 ?mn_Cq6, trivial⟩ ⟨⟨exm_of (b := true) ?mn_Cs0 ?mn_Cz0 ?mn_Ct0 ?mn_S0_0 rfl, exm_of (b := true) ?mn_Cs0 ?mn_Cz0 ?mn_Ct0 ?mn_S0_1 rfl, exm_of (b := true) ?mn_Cs0 ?mn_Cz0 ?mn_Ct0 ?mn_S0_2 rfl, exm_of (b := true) ?mn_Cs0 ?mn_Cz0 ?mn_Ct0 ?mn_S0_3 rfl, exm_of (b := true) ?mn_Cs0 ?mn_Cz0 ?mn_Ct0 ?mn_S0_4 rfl, exm_of (b := true) ?mn_Cs0 ?mn_Cz0 ?mn_Ct0 ?mn_S0_5 rfl, exm_of (b := true) ?mn_Cs0 ?mn_Cz0 ?mn_Ct0 ?mn_S0_6 rfl, trivial⟩, ⟨exm_of (b := false) ?mn_Cs1 ?mn_Cz1 ?mn_Ct1 ?mn_S1_0 rfl, exm_of (b := true) ?mn_Cs1 ?mn_Cz1 ?mn_Ct1 ?mn_S1_1 rfl, exm_of (b := false) ?mn_Cs1 ?mn_Cz1 ?mn_Ct1 ?mn_S1_2 rfl, exm_of (b := false) ?mn_Cs1 ?mn_Cz1 ?mn_Ct1 ?mn_S1_3 rfl, exm_of (b := false) ?mn_Cs1 ?mn_Cz1 ?mn_Ct1 ?mn_S1_4 rfl, exm_of (b := false) ?mn_Cs1 ?mn_Cz1 ?mn_Ct1 ?mn_S1_5 rfl, exm_of (b := false) ?mn_Cs1 ?mn_Cz1 ?mn_Ct1 ?mn_S1_6 rfl, trivial⟩, ⟨exm_of (b := false) ?mn_Cs2 ?mn_Cz2 ?mn_Ct2 ?mn_S2_0 rfl, exm_of (b := false) ?mn_Cs2 ?mn_Cz2 ?mn_Ct2 ?mn_S2_1 rfl, exm_of (b := true) ?mn_Cs2 ?mn_Cz2 ?mn_Ct2 ?mn_S2_2 rfl, exm_of (b := false) ?mn_Cs2 ?mn_Cz2 ?mn_Ct2 ?mn_S2_3 rfl, exm_of (b := false) ?mn_Cs2 ?mn_Cz2 ?mn_Ct2 ?mn_S2_4 rfl, exm_of (b := false) ?mn_Cs2 ?mn_Cz2 ?mn_Ct2 ?mn_S2_5 rfl, exm_of (b := false) ?mn_Cs2 ?mn_Cz2 ?mn_Ct2 ?mn_S2_6 rfl, trivial⟩, ⟨exm_of (b := false) ?mn_Cs3 ?mn_Cz3 ?mn_Ct3 ?mn_S3_0 rfl, exm_of (b := false) ?mn_Cs3 ?mn_Cz3 ?mn_Ct3 ?mn_S3_1 rfl, exm_of (b := false) ?mn_Cs3 ?mn_Cz3 ?mn_Ct3 ?mn_S3_2 rfl, exm_of (b := true) ?mn_Cs3 ?mn_Cz3 ?mn_Ct3 ?mn_S3_3 rfl, exm_of (b := false) ?mn_Cs3 ?mn_Cz3 ?mn_Ct3 ?mn_S3_4 rfl, exm_of (b := false) ?mn_Cs3 ?mn_Cz3 ?mn_Ct3 ?mn_S3_5 rfl, exm_of (b := false) ?mn_Cs3 ?mn_Cz3 ?mn_Ct3 ?mn_S3_6 rfl, trivial⟩, ⟨exm_of (b := false) ?mn_Cs4 ?mn_Cz4 ?mn_Ct4 ?mn_S4_0 rfl, exm_of (b := false) ?mn_Cs4 ?mn_Cz4 ?mn_Ct4 ?mn_S4_1 rfl, exm_of (b := false) ?mn_Cs4 ?mn_Cz4 ?mn_Ct4 ?mn_S4_2 rfl, exm_of (b := false) ?mn_Cs4 ?mn_Cz4 ?mn_Ct4 ?mn_S4_3 rfl, exm_of (b := true) ?mn_Cs4 ?mn_Cz4 ?mn_Ct4 ?mn_S4_4 rfl, exm_of (b := false) ?mn_Cs4 ?mn_Cz4 ?mn_Ct4 ?mn_S4_5 rfl, exm_of (b := false) ?mn_Cs4 ?mn_Cz4 ?mn_Ct4 ?mn_S4_6 rfl, trivial⟩, ⟨exm_of (b := false) ?mn_Cs5 ?mn_Cz5 ?mn_Ct5 ?mn_S5_0 rfl, exm_of (b := false) ?mn_Cs5 ?mn_Cz5 ?mn_Ct5 ?mn_S5_1 rfl, exm_of (b := false) ?mn_Cs5 ?mn_Cz5 ?mn_Ct5 ?mn_S5_2 rfl, exm_of (b := false) ?mn_Cs5 ?mn_Cz5 ?mn_Ct5 ?mn_S5_3 rfl, exm_of (b := false) ?mn_Cs5 ?mn_Cz5 ?mn_Ct5 ?mn_S5_4 rfl, exm_of (b := true) ?mn_Cs5 ?mn_Cz5 ?mn_Ct5 ?mn_S5_5 rfl, exm_of (b := false) ?mn_Cs5 ?mn_Cz5 ?mn_Ct5 ?mn_S5_6 rfl, trivial⟩, ⟨exm_of (b := false) ?mn_Cs6 ?mn_Cz6 ?mn_Ct6 ?mn_S6_0 rfl, exm_of (b := false) ?mn_Cs6 ?mn_Cz6 ?mn_Ct6 ?mn_S6_1 rfl, exm_of (b := false) ?mn_Cs6 ?mn_Cz6 ?mn_Ct6 ?mn_S6_2 rfl, exm_of (b := false) ?mn_Cs6 ?mn_Cz6 ?mn_Ct6 ?mn_S6_3 rfl, exm_of (b := false) ?mn_Cs6 ?mn_Cz6 ?mn_Ct6 ?mn_S6_4 rfl, exm_of (b := false) ?mn_Cs6 ?mn_Cz6 ?mn_Ct6 ?mn_S6_5 rfl, exm_of (b := true) ?mn_Cs6 ?mn_Cz6 ?mn_Ct6 ?mn_S6_6 rfl, trivial⟩, trivial⟩
    (case mn_a0 => k_is)
    (case mn_l0 => k_is)
    (case mn_c0 => k_is)
    (case mn_k0 => k_is)
    (case mn_a1 => k_is)
    (case mn_l1 => k_is)
    (case mn_c1 => k_is)
    (case mn_k1 => k_is)
    (case mn_a2 => k_is)
    (case mn_l2 => k_is)
    (case mn_c2 => k_is)
    (case mn_k2 => k_is)
    (case mn_a3 => k_is)
    (case mn_l3 => k_is)
    (case mn_c3 => k_is)
    (case mn_k3 => k_is)
    (case mn_a4 => k_is)
    (case mn_l4 => k_is)
    (case mn_c4 => k_is)
    (case mn_k4 => k_is)
    (case mn_a5 => k_is)
    (case mn_l5 => k_is)
    (case mn_c5 => k_is)
    (case mn_k5 => k_is)
    (case mn_a6 => k_is)
    (case mn_l6 => k_is)
    (case mn_c6 => k_is)
    (case mn_k6 => k_is)
    (case mn_a7 => k_is)
    (case mn_l7 => k_is)
    (case mn_c7 => k_is)
    (case mn_k7 => k_is)
    (case mn_a8 => k_is)
    (case mn_l8 => k_is)
    (case mn_c8 => k_is)
    (case mn_k8 => k_is)
    (case mn_a9 => k_is)
    (case mn_l9 => k_is)
    (case mn_c9 => k_is)
    (case mn_k9 => k_is)
    (case mn_a10 => k_is)
    (case mn_l10 => k_is)
    (case mn_c10 => k_is)
    (case mn_k10 => k_is)
    (case mn_a11 => k_is)
    (case mn_l11 => k_is)
    (case mn_c11 => k_is)
    (case mn_k11 => k_is)
    (case mn_a12 => k_is)
    (case mn_l12 => k_is)
    (case mn_c12 => k_is)
    (case mn_k12 => k_is)
    (case mn_a13 => k_is)
    (case mn_l13 => k_is)
    (case mn_c13 => k_is)
    (case mn_k13 => k_is)
    (case mn_a14 => k_is)
    (case mn_l14 => k_is)
    (case mn_c14 => k_is)
    (case mn_k14 => k_is)
    (case mn_a15 => k_is)
    (case mn_l15 => k_is)
    (case mn_c15 => k_is)
    (case mn_k15 => k_is)
    (case mn_a16 => k_is)
    (case mn_l16 => k_is)
    (case mn_c16 => k_is)
    (case mn_k16 => k_is)
    (case mn_a17 => k_is)
    (case mn_l17 => k_is)
    (case mn_c17 => k_is)
    (case mn_k17 => k_is)
    (case mn_a18 => k_is)
    (case mn_l18 => k_is)
    (case mn_c18 => k_is)
    (case mn_k18 => k_is)
    (case mn_a19 => k_is)
    (case mn_l19 => k_is)
    (case mn_c19 => k_is)
    (case mn_k19 => k_is)
    (case mn_a20 => k_is)
    (case mn_l20 => k_is)
    (case mn_c20 => k_is)
    (case mn_k20 => k_is)
    (case mn_a21 => k_is)
    (case mn_l21 => k_is)
    (case mn_c21 => k_is)
    (case mn_k21 => k_is)
    (case mn_a22 => k_is)
    (case mn_l22 => k_is)
    (case mn_c22 => k_is)
    (case mn_k22 => k_is)
    (case mn_a23 => k_is)
    (case mn_l23 => k_is)
    (case mn_c23 => k_is)
    (case mn_k23 => k_is)
    (case mn_a24 => k_is)
    (case mn_l24 => k_is)
    (case mn_c24 => k_is)
    (case mn_k24 => k_is)
    (case mn_a25 => k_is)
    (case mn_l25 => k_is)
    (case mn_c25 => k_is)
    (case mn_k25 => k_is)
    (case mn_a26 => k_is)
    (case mn_l26 => k_is)
    (case mn_c26 => k_is)
    (case mn_k26 => k_is)
    (case mn_a27 => k_is)
    (case mn_l27 => k_is)
    (case mn_c27 => k_is)
    (case mn_k27 => k_is)
    (case mn_a28 => k_is)
    (case mn_l28 => k_is)
    (case mn_c28 => k_is)
    (case mn_k28 => k_is)
    (case mn_a29 => k_is)
    (case mn_l29 => k_is)
    (case mn_c29 => k_is)
    (case mn_k29 => k_is)
    (case mn_a30 => k_is)
    (case mn_l30 => k_is)
    (case mn_c30 => k_is)
    (case mn_k30 => k_is)
    (case mn_a31 => k_is)
    (case mn_l31 => k_is)
    (case mn_c31 => k_is)
    (case mn_k31 => k_is)
    (case mn_a32 => k_is)
    (case mn_l32 => k_is)
    (case mn_c32 => k_is)
    (case mn_k32 => k_is)
    (case mn_a33 => k_is)
    (case mn_l33 => k_is)
    (case mn_c33 => k_is)
    (case mn_k33 => k_is)
    (case mn_a34 => k_is)
    (case mn_l34 => k_is)
    (case mn_c34 => k_is)
    (case mn_k34 => k_is)
    (case mn_a35 => k_is)
    (case mn_l35 => k_is)
    (case mn_c35 => k_is)
    (case mn_k35 => k_is)
    (case mn_z0 => k_is)
    (case mn_z1 => k_is)
    (case mn_z2 => k_is)
    (case mn_z3 => k_is)
    (case mn_z4 => k_is)
    (case mn_z5 => k_is)
    (case mn_z6 => k_is)
    (case mn_z7 => k_is)
    (case mn_z8 => k_is)
    (case mn_z9 => k_is)
    (case mn_z10 => k_is)
    (case mn_z11 => k_is)
    (case mn_z12 => k_is)
    (case mn_z13 => k_is)
    (case mn_g0 => k_is)
    (case mn_h0 => exact ⟨_, rfl⟩)
    (case mn_g1 => k_is)
    (case mn_h1 => exact ⟨_, rfl⟩)
    (case mn_g2 => k_is)
    (case mn_h2 => exact ⟨_, rfl⟩)
    (case mn_g3 => k_is)
    (case mn_h3 => exact ⟨_, rfl⟩)
    (case mn_g4 => k_is)
    (case mn_h4 => exact ⟨_, rfl⟩)
    (case mn_g5 => k_is)
    (case mn_h5 => exact ⟨_, rfl⟩)
    (case mn_Ca0 => k_is)
    (case mn_Ck0 => k_is)
    (case mn_Cs0 => k_is)
    (case mn_Ct0 => k_is)
    (case mn_Cq0 => first | kernel_rfl | rfl)
    (case mn_Ca1 => k_is)
    (case mn_Ck1 => k_is)
    (case mn_Cs1 => k_is)
    (case mn_Ct1 => k_is)
    (case mn_Cq1 => first | kernel_rfl | rfl)
    (case mn_Ca2 => k_is)
    (case mn_Ck2 => k_is)
    (case mn_Cs2 => k_is)
    (case mn_Ct2 => k_is)
    (case mn_Cq2 => first | kernel_rfl | rfl)
    (case mn_Ca3 => k_is)
    (case mn_Ck3 => k_is)
    (case mn_Cs3 => k_is)
    (case mn_Ct3 => k_is)
    (case mn_Cq3 => first | kernel_rfl | rfl)
    (case mn_Ca4 => k_is)
    (case mn_Ck4 => k_is)
    (case mn_Cs4 => k_is)
    (case mn_Ct4 => k_is)
    (case mn_CL4 => k_is)
    (case mn_Cr4 => decide +kernel)
    (case mn_CA4 => k_is)
    (case mn_CB4 => k_is)
    (case mn_CC4 => k_is)
    (case mn_CD4 => k_is)
    (case mn_CE4 => k_is)
    (case mn_CF4 => k_is)
    (case mn_CG4 => k_is)
    (case mn_CH4 => k_is)
    (case mn_CI4 => k_is)
    (case mn_CJ4 => k_is)
    (case mn_Ca5 => k_is)
    (case mn_Ck5 => k_is)
    (case mn_Cs5 => k_is)
    (case mn_Ct5 => k_is)
    (case mn_Cq5 => first | kernel_rfl | rfl)
    (case mn_Ca6 => k_is)
    (case mn_Ck6 => k_is)
    (case mn_Cs6 => k_is)
    (case mn_Ct6 => k_is)
    (case mn_Cq6 => first | kernel_rfl | rfl)
    (case mn_Cz0 => k_is)
    (case mn_S0_0 => first | rfl | k_is)
    (case mn_S0_1 => first | rfl | k_is)
    (case mn_S0_2 => first | rfl | k_is)
    (case mn_S0_3 => first | rfl | k_is)
    (case mn_S0_4 => first | rfl | k_is)
    (case mn_S0_5 => first | rfl | k_is)
    (case mn_S0_6 => first | rfl | k_is)
    (case mn_Cz1 => k_is)
    (case mn_S1_0 => first | rfl | k_is)
    (case mn_S1_1 => first | rfl | k_is)
    (case mn_S1_2 => first | rfl | k_is)
    (case mn_S1_3 => first | rfl | k_is)
    (case mn_S1_4 => first | rfl | k_is)
    (case mn_S1_5 => first | rfl | k_is)
    (case mn_S1_6 => first | rfl | k_is)
    (case mn_Cz2 => k_is)
    (case mn_S2_0 => first | rfl | k_is)
    (case mn_S2_1 => first | rfl | k_is)
    (case mn_S2_2 => first | rfl | k_is)
    (case mn_S2_3 => first | rfl | k_is)
    (case mn_S2_4 => first | rfl | k_is)
    (case mn_S2_5 => first | rfl | k_is)
    (case mn_S2_6 => first | rfl | k_is)
    (case mn_Cz3 => k_is)
    (case mn_S3_0 => first | rfl | k_is)
    (case mn_S3_1 => first | rfl | k_is)
    (case mn_S3_2 => first | rfl | k_is)
    (case mn_S3_3 => first | rfl | k_is)
    (case mn_S3_4 => first | rfl | k_is)
    (case mn_S3_5 => first | rfl | k_is)
    (case mn_S3_6 => first | rfl | k_is)
    (case mn_Cz4 => k_is)
    (case mn_S4_0 => first | rfl | k_is)
    (case mn_S4_1 => first | rfl | k_is)
    (case mn_S4_2 => first | rfl | k_is)
    (case mn_S4_3 => first | rfl | k_is)
    (case mn_S4_4 => first | rfl | k_is)
    (case mn_S4_5 => first | rfl | k_is)
    (case mn_S4_6 => first | rfl | k_is)
    (case mn_Cz5 => k_is)
    (case mn_S5_0 => first | rfl | k_is)
    (case mn_S5_1 => first | rfl | k_is)
    (case mn_S5_2 => first | rfl | k_is)
    (case mn_S5_3 => first | rfl | k_is)
    (case mn_S5_4 => first | rfl | k_is)
    (case mn_S5_5 => first | rfl | k_is)
    (case mn_S5_6 => first | rfl | k_is)
    (case mn_Cz6 => k_is)
    (case mn_S6_0 => first | rfl | k_is)
    (case mn_S6_1 => first | rfl | k_is)
    (case mn_S6_2 => first | rfl | k_is)
    (case mn_S6_3 => first | rfl | k_is)
    (case mn_S6_4 => first | rfl | k_is)
    (case mn_S6_5 => first | rfl | k_is)
    (case mn_S6_6 => first | rfl | k_is)
#print axioms PySem.Challenge.cw_whyanswers_k60_changes_of_tables_holds
