import PyProof.Rows.All
import Wide.All
import OpenK.AllK
import Wide.FinOn
import KE.SortCalls
import KE.DataEq
import HandS.ForExc
import HandS.Wide
import HandS.HeadHook1
import HandS.ExcIs
import HandS.TupAny
import HandS.Deep
import HandS.Text
import HandS.Flow
import HandS.Star
import HandS.IsInst
import HandS.Conv
import HandS.Iter
import HandS.Zip
import HandS.Style
import HandS.Comp
import HandS.Words
import HandS.Exc
import HandS.HotCalls
import HandS.SetKeys
import HandS.Strs
import PyProof.Rows.SetFrom
import HandS.TupSets
import HandS.DictComp
import PyProof.ZipIter
import PyProof.EnumIter
import HandS.Dict
import KE.KDictDisplayH
import KE.KRevSl
import HandS.SetFor
import HandS.ExcValue
import PyProof.ExcBaseAll.ValueError
import PyProof.ListIndex
import HandS.RaiseMore
import HandS.HeadEnd
import HandS.Head0
import HandS.Head1
import HandS.Head2
import HandS.Defaults
import HandS.HeadHook2
import PySem.Challenge.RW_ziplanes_k68_errors_are_distinct
set_option Elab.async false
set_option linter.all false
set_option maxRecDepth 100000
set_option maxHeartbeats 2000000
/-! Nested tuples that differ in shape behind their first difference: == and <, sorting. -/
namespace TO
open PySem PySem.Spec PySem.SeqAt PySem.W PyProof.Rows
open AutoSeq1 (wpAny_loadPart')
open MeetsSeq MeetsSeq2 MeetsSeq3 SeqRoads2
open PyProof.Rows (lexLt)
mutual
/-- two data can be compared: kind by kind up to their first difference -/
def cmpOk : PyData → PyData → Bool
  | .bool _, .bool _ => true
  | .int _, .int _ => true
  | .str _, .str _ => true
  | .tuple xs, .tuple ys => cmpAll xs ys
  | _, _ => false
def cmpAll : List PyData → List PyData → Bool
  | x :: xs, y :: ys => cmpOk x y && (!PyData.eqv x y || cmpAll xs ys)
  | [], _ => true
  | _ :: _, [] => true
end
theorem cmp_cons {x y : PyData} {xs ys : List PyData} (h : cmpAll (x :: xs) (y :: ys) = true) : cmpOk x y = true ∧ (PyData.eqv x y = true → cmpAll xs ys = true) := by
  rw [cmpAll, Bool.and_eq_true] at h
  refine ⟨h.1, fun e => ?_⟩
  have := h.2
  rw [e] at this
  simpa using this
theorem cmp_some {x y : PyData} (h : cmpOk x y = true) : x ≠ .none := by
  intro e
  subst e
  cases y <;> simp [cmpOk] at h
mutual
theorem cmp_eq : ∀ x y : PyData, cmpOk x y = true → PyData.eqv x y = true → x = y
  | .bool a, y, h, e => by
    cases y <;> first | (simp [cmpOk] at h; done) | skip
    simpa [PyData.eqv] using e
  | .int a, y, h, e => by
    cases y <;> first | (simp [cmpOk] at h; done) | skip
    simpa [PyData.eqv] using e
  | .str a, y, h, e => by
    cases y <;> first | (simp [cmpOk] at h; done) | skip
    simpa [PyData.eqv] using e
  | .tuple xs, y, h, e => by
    cases y <;> first | (simp [cmpOk] at h; done) | skip
    rename_i ys
    rw [cmp_eqAll xs ys (by simpa [cmpOk] using h) (by simpa [PyData.eqv] using e)]
  | .none, y, h, e => absurd rfl (cmp_some h)
  | .list _, y, h, e => by cases y <;> simp [cmpOk] at h
  | .dict _, y, h, e => by cases y <;> simp [cmpOk] at h
theorem cmp_eqAll : ∀ xs ys : List PyData, cmpAll xs ys = true → PyData.eqvAll xs ys = true → xs = ys
  | [], [], _, _ => rfl
  | [], _ :: _, _, e => by simp [PyData.eqvAll] at e
  | _ :: _, [], _, e => by simp [PyData.eqvAll] at e
  | x :: xs, y :: ys, h, e => by
    obtain ⟨h1, h2⟩ := cmp_cons h
    rw [eqv_all_cons, Bool.and_eq_true] at e
    rw [cmp_eq x y h1 e.1, cmp_eqAll xs ys (h2 e.1) e.2]
end
mutual
/-- the signs of two that differ decide, whatever follows -/
theorem toks_no : ∀ x y : PyData, cmpOk x y = true → PyData.eqv x y = false → ∀ l m, lexLt itemOrd (keyToks x ++ l) (keyToks y ++ m) = lexLt itemOrd (keyToks x) (keyToks y)
  | .bool a, y, h, e => by
    cases y <;> first | (simp [cmpOk] at h; done) | exact (toks_eqv _ _ rfl).2 e
  | .int a, y, h, e => by
    cases y <;> first | (simp [cmpOk] at h; done) | exact (toks_eqv _ _ rfl).2 e
  | .str a, y, h, e => by
    cases y <;> first | (simp [cmpOk] at h; done) | exact (toks_eqv _ _ rfl).2 e
  | .tuple xs, y, h, e => by
    cases y <;> first | (simp [cmpOk] at h; done) | skip
    rename_i ys
    simp only [keyToks]
    exact toks_noAll xs ys (by simpa [cmpOk] using h) (by simpa [PyData.eqv] using e)
  | .none, y, h, e => absurd rfl (cmp_some h)
  | .list _, y, h, e => by cases y <;> simp [cmpOk] at h
  | .dict _, y, h, e => by cases y <;> simp [cmpOk] at h
theorem toks_noAll : ∀ xs ys : List PyData, cmpAll xs ys = true → PyData.eqvAll xs ys = false → ∀ l m, lexLt itemOrd (keyToksAll xs ++ l) (keyToksAll ys ++ m) = lexLt itemOrd (keyToksAll xs) (keyToksAll ys)
  | [], [], _, e, _, _ => by simp [PyData.eqvAll] at e
  | [], y :: ys, _, _, l, m => by
    rw [toks_all_cons]
    simp only [keyToksAll, List.cons_append, List.nil_append]
    rw [lex_atom (by simp), ← lex_atom (l := []) (m := keyToks y ++ keyToksAll ys) (by simp)]
  | x :: xs, [], _, _, l, m => by
    rw [toks_all_cons]
    simp only [keyToksAll, List.cons_append, List.nil_append]
    rw [lex_atom (by simp), ← lex_atom (l := keyToks x ++ keyToksAll xs) (m := []) (by simp)]
  | x :: xs, y :: ys, h, e, l, m => by
    obtain ⟨h1, h2⟩ := cmp_cons h
    rw [toks_all_cons, toks_all_cons]
    simp only [List.cons_append, List.append_assoc]
    rw [lex_self (O := itemOrd), lex_self (O := itemOrd)]
    cases q : PyData.eqv x y with
    | true =>
      have e2 : PyData.eqvAll xs ys = false := by rw [eqv_all_cons, q, Bool.true_and] at e; exact e
      rw [cmp_eq x y h1 q, lex_pre, lex_pre]
      exact toks_noAll xs ys (h2 q) e2 l m
    | false =>
      rw [toks_no x y h1 q, toks_no x y h1 q (keyToksAll xs)]
end
theorem lt_yes {x y : PyData} {xs ys : List PyData} (h : cmpOk x y = true) (q : PyData.eqv x y = true) : lexLt itemOrd (keyToksAll (x :: xs)) (keyToksAll (y :: ys)) = lexLt itemOrd (keyToksAll xs) (keyToksAll ys) := by
  rw [toks_all_cons, toks_all_cons, lex_self (O := itemOrd), cmp_eq x y h q, lex_pre]
theorem lt_no {x y : PyData} {xs ys : List PyData} (h : cmpOk x y = true) (q : PyData.eqv x y = false) : lexLt itemOrd (keyToksAll (x :: xs)) (keyToksAll (y :: ys)) = dataLt x y := by
  rw [toks_all_cons, toks_all_cons, lex_self (O := itemOrd)]
  exact toks_no x y h q _ _
theorem first_cmp : ∀ xs ys : List PyData, cmpAll xs ys = true →
    firstLt (pairEq xs ys) (fun j => dataLt (xs.getD j .none) (ys.getD j .none)) (decide (xs.length < ys.length)) (List.range (min xs.length ys.length)) = lexLt itemOrd (keyToksAll xs) (keyToksAll ys)
  | [], [], _ => firstLt_toks [] [] rfl
  | [], y :: ys, _ => firstLt_toks [] (y :: ys) rfl
  | x :: xs, [], _ => firstLt_toks (x :: xs) [] rfl
  | x :: xs, y :: ys, h => by
    obtain ⟨h1, h2⟩ := cmp_cons h
    have m : min (x :: xs).length (y :: ys).length = min xs.length ys.length + 1 := by simp only [List.length_cons]; omega
    have d : decide ((x :: xs).length < (y :: ys).length) = decide (xs.length < ys.length) := by simp only [List.length_cons]; exact decide_eq_decide.mpr (by omega)
    rw [m, d, List.range_succ_eq_map]
    cases q : PyData.eqv x y with
    | true =>
      rw [firstLt_yes (show pairEq (x :: xs) (y :: ys) 0 = true from q), firstLt_map, lt_yes h1 q, ← first_cmp xs ys (h2 q)]
      rfl
    | false =>
      rw [firstLt_no (show pairEq (x :: xs) (y :: ys) 0 = false from q), lt_no h1 q]
      rfl
/-! ### < of two tuples: only the first place that differs is asked -/
theorem tup_ltM (l b : Addr) (us vs : Array Value) (n n2 : Nat) (dd dd2 : Option Addr) (sl sl2 : Array (Option Value)) (e r : Nat → Bool) :
    Meets (Builtin.«tuple.__lt__» ⟨[.ref l, .ref b], []⟩)
      (fun A R s => s.heap.get? l = some { cls := .type "tuple", dict := dd, data := .seq us n, slots := sl } ∧ s.heap.get? b = some { cls := .type "tuple", dict := dd2, data := .seq vs n2, slots := sl2 } ∧
        (∀ j (h1 : j < us.size) (h2 : j < vs.size), EqAt A.in1 s us[j] vs[j] (e j)) ∧ (∀ j (h1 : j < us.size) (h2 : j < vs.size), (∀ i, i < j → e i = true) → e j = false → RcLt A.in1 s us[j] vs[j] (r j)) ∧
        R (.ok (.ret (.bool (firstLt e r (decide (us.size < vs.size)) (List.range (min us.size vs.size)))))) s) :=
  .of_wp fun prog w A R s h => by
    obtain ⟨hp, g, d, tk, os⟩ := s
    obtain ⟨o1, o2, he, hr, h⟩ := h
    have sub := AutoSeq1.sub_tuple_tuple
    have zl : (us.toList.zip vs.toList).length = min us.size vs.size := by simp
    wp_walk using wpAny_loadPart' o1, wpAny_loadPart' o2, wpAny_forIn_list _ (fun rest b s' => b.1 = none ∧ s' = ⟨hp, g, d, tk, os⟩ ∧ ∃ i, rest = (us.toList.zip vs.toList).drop i ∧ (∀ j, j < i → e j = true) ∧
      R (.ok (.ret (.bool (firstLt e r (decide (us.size < vs.size)) ((List.range (min us.size vs.size)).drop i))))) ⟨hp, g, d, tk, os⟩) _
    case turn =>
      rintro ⟨y, x⟩ rest b s' ⟨hb, rfl, i, hz, hu, hR⟩
      have lt : i < (us.toList.zip vs.toList).length := by
        refine Nat.lt_of_not_le fun q => ?_
        rw [List.drop_of_length_le q] at hz
        cases hz
      have lm : i < min us.size vs.size := zl ▸ lt
      have h1 : i < us.size := by omega
      have h2 : i < vs.size := by omega
      rw [List.drop_eq_getElem_cons lt] at hz
      injection hz with hyx rest_
      obtain rfl : y = us[i] := by simpa using congrArg Prod.fst hyx
      obtain rfl : x = vs[i] := by simpa using congrArg Prod.snd hyx
      have cut : (List.range (min us.size vs.size)).drop i = i :: (List.range (min us.size vs.size)).drop (i + 1) := by simp [List.drop_eq_getElem_cons, lm]
      rw [cut] at hR
      refine wpAny_bind (he i h1 h2 prog w _ _ ?_)
      cases q : e i with
      | true =>
        rw [firstLt_yes q] at hR
        wp_walk
        refine ⟨rfl, rfl, i + 1, rest_, fun j hj => ?_, hR⟩
        rcases Nat.lt_succ_iff_lt_or_eq.mp hj with q2 | q2
        · exact hu j q2
        · rw [q2]; exact q
      | false =>
        rw [firstLt_no q] at hR
        show wpAny _ _ (rule "tuple.compare.by-the-first-pair-that-differs" >>= fun _ => richCompare .Lt us[i] vs[i] >>= fun z => ret z >>= fun y => pure (ForInStep.done (some y, ()))) _ _ _
        refine wpAny_bind (wpAny_rule (wpAny_bind (hr i h1 h2 hu q prog w _ _ ?_)))
        wp_walk
        exact ⟨_, rfl, hR⟩
    case fin =>
      rintro ⟨b1, b2⟩ s' ⟨hb, rfl, i, hz, _, hR⟩
      have hb : b1 = none := hb
      subst hb
      have ge : min us.size vs.size ≤ i := by
        refine Nat.le_of_not_lt fun q => ?_
        rw [List.drop_eq_getElem_cons (by rw [zl]; exact q)] at hz
        cases hz
      rw [List.drop_of_length_le (by simpa using ge)] at hR
      wp_walk
      exact ⟨_, rfl, by simpa [Builtin.Tuple.tupleCompareSizes, firstLt] using hR⟩
    case h =>
      exact ⟨rfl, rfl, 0, rfl, fun j hj => absurd hj (Nat.not_lt_zero _), by simpa using h⟩
theorem lt_tups {A : Around} {s : Shared} {l b : Addr} {us vs : Array Value} {e r : Nat → Bool} (hl : s.heap.IsTuple l us) (hb : s.heap.IsTuple b vs) (hu : A.units < cLine)
    (he : ∀ j (h1 : j < us.size) (h2 : j < vs.size), EqAt A.in1 s us[j] vs[j] (e j)) (hr : ∀ j (h1 : j < us.size) (h2 : j < vs.size), (∀ i, i < j → e i = true) → e j = false → RcLt A.in1 s us[j] vs[j] (r j)) :
    RcLt A s (.ref l) (.ref b) (firstLt e r (decide (us.size < vs.size)) (List.range (min us.size vs.size))) := fun prog w E Q h => by
  obtain ⟨⟨c1, d1, t1, s1⟩, o1, k1, n1, x1⟩ := id hl
  obtain ⟨⟨c2, d2, t2, s2⟩, o2, k2, n2, x2⟩ := id hb
  dsimp only at k1 x1 k2 x2
  subst k1 x1 k2 x2
  exact richCompare_meets_room (op := .Lt) ⟨_, o1, rfl⟩ ⟨_, o2, rfl⟩ F.slot_tuple_lt F.entry_tuple_lt (F.args_tuple_lt_2 _ _) (tup_ltM l b us vs n1 n2 d1 d2 s1 s2 e r)
    ⟨o1, o2, he, hr, (⟨(fun x => nomatch x), h⟩ : Value.bool (firstLt e r (decide (us.size < vs.size)) (List.range (min us.size vs.size))) ≠ Value.notImplemented ∧ Q (.bool (firstLt e r (decide (us.size < vs.size)) (List.range (min us.size vs.size)))) s)⟩ hu
mutual
theorem lt_cmp : ∀ (x y : PyData) (A : Around) (s : Shared) (a b : Value) (as bs : List Addr), Reads s.heap a x as → Reads s.heap b y bs → cmpOk x y = true → x.plain = true → y.plain = true → A.units + min x.depth y.depth < cLine → RcLt A s a b (dataLt x y)
  | .bool p, y, A, s, a, b, as, bs, ra, rb, h, _, _, hu => by
    cases y <;> first | (simp [cmpOk] at h; done) | exact rcLt_alike _ _ A s a b as bs ra rb rfl (fun q => nomatch q) hu
  | .int p, y, A, s, a, b, as, bs, ra, rb, h, _, _, hu => by
    cases y <;> first | (simp [cmpOk] at h; done) | exact rcLt_alike _ _ A s a b as bs ra rb rfl (fun q => nomatch q) hu
  | .str p, y, A, s, a, b, as, bs, ra, rb, h, _, _, hu => by
    cases y <;> first | (simp [cmpOk] at h; done) | exact rcLt_alike _ _ A s a b as bs ra rb rfl (fun q => nomatch q) hu
  | .tuple xs, y, A, s, a, b, as, bs, ra, rb, h, hx, hy, hu => by
    cases y <;> first | (simp [cmpOk] at h; done) | skip
    rename_i ys
    have hc : cmpAll xs ys = true := by simpa [cmpOk] using h
    have px : PyData.plainAll xs = true := by simpa [PyData.plain] using hx
    have py : PyData.plainAll ys = true := by simpa [PyData.plain] using hy
    cases ra with
    | @tuple l o us n _ as₁ h1 h2 h3 h4 =>
      cases rb with
      | @tuple l' o' vs n' _ bs₁ k1 k2 k3 k4 =>
        have n1 : us.size = xs.length := by simpa using ReadsAll.length _ _ _ h4
        have n2 : vs.size = ys.length := by simpa using ReadsAll.length _ _ _ k4
        rw [dataLt_tuple, ← first_cmp xs ys hc, ← n1, ← n2]
        refine lt_tups ⟨_, h1, h2, _, h3⟩ ⟨_, k1, k2, _, k3⟩ (room_here hu) (fun j j1 j2 => ?_) fun j j1 j2 up no => ?_
        · have z := eqAt_plainAll xs ys A.in1 s us.toList vs.toList _ _ h4 k4 px py (room_in hu) j (by simpa using j1) (by simpa using j2)
          simpa using z
        · have z := lt_cmpAll xs ys A.in1 s us.toList vs.toList _ _ h4 k4 hc px py (room_in hu) j (by simpa using j1) (by simpa using j2) up no
          simpa using z
  | .none, _, _, _, _, _, _, _, _, _, h, _, _, _ => absurd rfl (cmp_some h)
  | .list _, y, _, _, _, _, _, _, _, _, h, _, _, _ => by cases y <;> simp [cmpOk] at h
  | .dict _, y, _, _, _, _, _, _, _, _, h, _, _, _ => by cases y <;> simp [cmpOk] at h
theorem lt_cmpAll : ∀ (xs ys : List PyData) (A : Around) (s : Shared) (us vs : List Value) (as bs : List Addr), ReadsAll s.heap us xs as → ReadsAll s.heap vs ys bs → cmpAll xs ys = true → PyData.plainAll xs = true → PyData.plainAll ys = true →
    A.units + min (PyData.depthAll xs) (PyData.depthAll ys) < cLine → ∀ j (h1 : j < us.length) (h2 : j < vs.length), (∀ i, i < j → pairEq xs ys i = true) → pairEq xs ys j = false → RcLt A s us[j] vs[j] (dataLt (xs.getD j .none) (ys.getD j .none))
  | [], _, _, _, _, _, _, _, ra, _, _, _, _, _, j, h1, _, _, _ => by cases ra; exact absurd h1 (Nat.not_lt_zero _)
  | _ :: _, [], _, _, _, _, _, _, _, rb, _, _, _, _, j, _, h2, _, _ => by cases rb; exact absurd h2 (Nat.not_lt_zero _)
  | x :: xs, y :: ys, A, s, _, _, _, _, ra, rb, h, px, py, hu, j, h1, h2, up, no => by
    obtain ⟨c1, c2⟩ := cmp_cons h
    have px : x.plain = true ∧ PyData.plainAll xs = true := by simpa [PyData.plainAll] using px
    have py : y.plain = true ∧ PyData.plainAll ys = true := by simpa [PyData.plainAll] using py
    cases ra with
    | cons r rs =>
      cases rb with
      | cons r' rs' =>
        cases j with
        | zero => exact lt_cmp x y A s _ _ _ _ r r' c1 px.1 py.1 (room_head hu)
        | succ j => exact lt_cmpAll xs ys A s _ _ _ _ rs rs' (c2 (up 0 (Nat.succ_pos _))) px.2 py.2 (room_tail hu) j (Nat.lt_of_succ_lt_succ h1) (Nat.lt_of_succ_lt_succ h2) (fun i hi => up (i + 1) (Nat.succ_lt_succ hi)) no
end
/-! ### as sorting compares -/
section
variable {prog : Program} {w : World} {A : Around} {E : Value → Shared → Prop} {s : Shared}
theorem lex_cmp {fin : Bool} {Q : Bool → Shared → Prop} : ∀ (xs ys : List PyData) (i : Nat) (us vs : List Value) (as bs : List Addr), ReadsAll s.heap us xs as → ReadsAll s.heap vs ys bs → cmpAll xs ys = true → PyData.plainAll xs = true → PyData.plainAll ys = true →
    A.units + min (PyData.depthAll xs) (PyData.depthAll ys) < cLine → (i = 0 → ∃ x r y t, xs = .str x :: r ∧ ys = .str y :: t) → fin = decide (xs.length < ys.length) → Q (lexLt itemOrd (keyToksAll xs) (keyToksAll ys)) s → KatLex prog w A true fin Q (us.zip vs) i s
  | [], [], i, _, _, _, _, ra, rb, _, _, _, _, _, hf, hq => by
    cases ra
    cases rb
    have e : fin = false := by rw [hf]; rfl
    subst e
    rw [lex_irrefl] at hq
    exact kat_nil hq
  | [], y :: ys, i, _, _, _, _, ra, rb, _, _, _, _, _, hf, hq => by
    cases ra
    have e : fin = true := by rw [hf]; exact decide_eq_true (Nat.succ_pos _)
    subst e
    rw [toks_all_cons, keyToksAll, lex_diff (O := itemOrd) (by simp)] at hq
    rw [List.zip_nil_left]
    exact kat_nil (by simpa [itemLt] using hq)
  | x :: xs, [], i, _, _, _, _, ra, rb, _, _, _, _, _, hf, hq => by
    cases rb
    have e : fin = false := by rw [hf]; exact decide_eq_false (Nat.not_lt_zero _)
    subst e
    rw [toks_all_cons, keyToksAll, lex_diff (O := itemOrd) (by simp)] at hq
    rw [List.zip_nil_right]
    exact kat_nil (by simpa [itemLt] using hq)
  | x :: xs, y :: ys, i, _, _, _, _, ra, rb, h, px, py, hu, h0, hf, hq => by
    obtain ⟨c1, c2⟩ := cmp_cons h
    have px : x.plain = true ∧ PyData.plainAll xs = true := by simpa [PyData.plainAll] using px
    have py : y.plain = true ∧ PyData.plainAll ys = true := by simpa [PyData.plainAll] using py
    have hf : fin = decide (xs.length < ys.length) := by
      rw [hf]
      simp only [List.length_cons, Nat.add_lt_add_iff_right]
    cases ra with
    | cons r rs =>
      cases rb with
      | cons r' rs' =>
        rw [List.zip_cons_cons]
        refine kat_cons (eqAt_plain x y A s _ _ _ _ r r' px.1 py.1 (room_head hu) prog w _ _ ?_)
        cases q : PyData.eqv x y with
        | true =>
          rw [lt_yes c1 q] at hq
          exact kat_yes (lex_cmp xs ys (i + 1) _ _ _ _ rs rs' (c2 q) px.2 py.2 (room_tail hu) (fun z => absurd z (Nat.succ_ne_zero i)) hf hq)
        | false =>
          rw [lt_no c1 q] at hq
          refine kat_no ?_
          by_cases z : i = 0
          · obtain ⟨x', r2, y', t2, e1, e2⟩ := h0 z
            obtain ⟨rfl, rfl⟩ := List.cons.inj e1
            obtain ⟨rfl, rfl⟩ := List.cons.inj e2
            exact oneLt_alike (da := .str x') (db := .str y') (fun _ t z => by cases z) r r' rfl (fun z => by cases z) (room_head hu) hq
          · rw [show (true && (i == 0)) = false by simpa using z]
            rw [oneLt'_eq]
            simp only [Bool.false_eq_true, if_false]
            exact wpAny_bind (lt_cmp x y A s _ _ _ _ r r' c1 px.1 py.1 (room_head hu) prog w _ _ (wpAny_truthy_bool hq))
mutual
theorem reads_one {h : Heap} : ∀ (x y : PyData) (v : Value) (as bs : List Addr), cmpOk x y = true → x.plain = true → Reads h v x as → Reads h v y bs → x = y
  | .bool p, y, v, as, bs, e, _, r, r' => by
    cases y <;> first | (simp [cmpOk] at e; done) | exact alike_unique _ _ _ _ _ rfl r r'
  | .int p, y, v, as, bs, e, _, r, r' => by
    cases y <;> first | (simp [cmpOk] at e; done) | exact alike_unique _ _ _ _ _ rfl r r'
  | .str p, y, v, as, bs, e, _, r, r' => by
    cases y <;> first | (simp [cmpOk] at e; done) | exact alike_unique _ _ _ _ _ rfl r r'
  | .tuple xs, y, v, as, bs, e, px, r, r' => by
    cases y <;> first | (simp [cmpOk] at e; done) | skip
    rename_i ys
    have px : PyData.plainAll xs = true := by simpa [PyData.plain] using px
    cases r with
    | @tuple l o us n _ as₁ h1 h2 h3 h4 =>
      cases r' with
      | @tuple l' o' vs n' _ bs₁ k1 k2 k3 k4 =>
        rw [h1] at k1
        cases k1
        rw [h3] at k3
        cases k3
        rw [reads_oneAll xs ys _ _ _ (by simpa [cmpOk] using e) px h4 k4]
  | .none, y, v, as, bs, e, _, r, r' => absurd rfl (cmp_some e)
  | .list _, y, v, as, bs, e, _, r, r' => by cases y <;> simp [cmpOk] at e
  | .dict _, y, v, as, bs, e, _, r, r' => by cases y <;> simp [cmpOk] at e
theorem reads_oneAll {h : Heap} : ∀ (xs ys : List PyData) (vs : List Value) (as bs : List Addr), cmpAll xs ys = true → PyData.plainAll xs = true → ReadsAll h vs xs as → ReadsAll h vs ys bs → xs = ys
  | [], [], _, _, _, _, _, _, _ => rfl
  | [], _ :: _, _, _, _, _, _, ra, rb => by cases ra; cases rb
  | _ :: _, [], _, _, _, _, _, ra, rb => by cases rb; cases ra
  | x :: xs, y :: ys, _, _, _, e, px, ra, rb => by
    obtain ⟨c1, c2⟩ := cmp_cons e
    have px : x.plain = true ∧ PyData.plainAll xs = true := by simpa [PyData.plainAll] using px
    cases ra with
    | cons r rs =>
      cases rb with
      | cons r' rs' =>
        have q := reads_one x y _ _ _ c1 px.1 r r'
        subst q
        rw [reads_oneAll xs ys _ _ _ (c2 (eqv_refl_plain x px.1)) px.2 rs rs']
end
/-- all can be compared -/
def AllCmp (ds : List PyData) : Prop := ∀ d, d ∈ ds → ∀ d', d' ∈ ds → cmpOk d d' = true
theorem kind_some {h : Heap} {ds : List PyData} (hal : AllCmp ds) (hp : ∀ d ∈ ds, d.plain = true) {v : Value} {d : PyData} {as : List Addr} (hd : d ∈ ds) (r : Reads h v d as) : (dataKind h ds).keyOf v = some (keyToks d) := by
  have q : ∃ d, d ∈ ds ∧ ∃ as, Reads h v d as := ⟨d, hd, as, r⟩
  have e : (dataKind h ds).keyOf v = some (keyToks q.choose) := dif_pos q
  obtain ⟨h1, bs, h2⟩ := q.choose_spec
  rw [e, reads_one _ _ _ _ _ (hal _ h1 _ hd) (hp _ h1) h2 r]
/-- tuples that begin with a text are sorted -/
theorem sorts {vs : List Value} {ds : List PyData} (e : EachIs (fun v d => ∃ as, Reads s.heap v d as) vs ds) (hal : AllCmp ds) (hp : ∀ d ∈ ds, d.plain = true) (hk : ∀ d, d ∈ ds → ∃ x r, d = .tuple (.str x :: r)) (hu : ∀ d, d ∈ ds → A.units + d.depth < cLine) :
    SortsAt prog w A s (dataKind s.heap ds) vs := by
  have room : ∀ {d d' : PyData}, d ∈ ds → A.units + min d.depth d'.depth < cLine := fun {d d'} hd => Nat.lt_of_le_of_lt (Nat.add_le_add_left (Nat.min_le_left _ _) _) (hu d hd)
  refine ⟨fun v hv => ?_, ?_⟩
  · obtain ⟨d, hd, as, r⟩ := e.left v hv
    exact ⟨_, kind_some hal hp hd r⟩
  · refine ⟨tuples' true, ?_, fun h2 E Q hq => ?_⟩
    · intro E x y a b Q ha hb hq
      obtain ⟨d, as, hd, ra, rfl⟩ := dataKind_inv ha
      obtain ⟨d', as', hd', rb, rfl⟩ := dataKind_inv hb
      have c := hal d hd d' hd'
      have rm := room (d' := d') hd
      have p1 := hp d hd
      have p2 := hp d' hd'
      obtain ⟨x1, r1, rfl⟩ := hk d hd
      obtain ⟨x2, r2, rfl⟩ := hk d' hd'
      have hq : Q (dataLt (.tuple (.str x1 :: r1)) (.tuple (.str x2 :: r2))) s := hq
      rw [dataLt_tuple] at hq
      cases ra with
      | @tuple l o us n _ _ h1 h2 h3 h4 =>
        cases rb with
        | @tuple l' o' us' n' _ _ k1 k2 k3 k4 =>
          have n1 : us.size = (PyData.str x1 :: r1).length := by simpa using ReadsAll.length _ _ _ h4
          have n2 : us'.size = (PyData.str x2 :: r2).length := by simpa using ReadsAll.length _ _ _ k4
          exact kat_lt h1 h3 k1 k3 (lex_cmp (.str x1 :: r1) (.str x2 :: r2) 0 _ _ _ _ h4 k4 (by simpa [cmpOk] using c) (by simpa [PyData.plain] using p1) (by simpa [PyData.plain] using p2) (by have q := room_in rm; omega) (fun _ => ⟨x1, r1, x2, r2, rfl, rfl⟩) (by rw [n1, n2]) hq)
    · obtain ⟨fs, t1, t2, t3⟩ := each_katTups e fun d hd => by
        obtain ⟨x, r, q⟩ := hk d hd
        exact ⟨_, r, q⟩
      refine kat_kind (T := .type "str") t1 (by omega) (fun f hf => ?_) (beq_self_eq_true _) hq
      obtain ⟨x, r, as, m1, m2⟩ := t3 f hf
      obtain ⟨x', r', q⟩ := hk _ m1
      cases q
      exact looks_reads m2
end
end TO

set_option maxRecDepth 100000
set_option maxHeartbeats 4000000
/-! Values as trees; what a tree stands for on the abstract heap; frames whose slots own their lists. -/
namespace FL
open PySem PySem.Spec PyProof.Rows L2

inductive D where
  | non | bl (b : Bool) | int (i : Int) | str (x : Str) | tup (ds : List D) | lst (ds : List D) | dic (kvs : List (Int × Int)) | exc (k : Nat)

mutual
def toPy : D → PyData
  | .non => .none
  | .bl b => .bool b
  | .int i => .int i
  | .str x => .str x
  | .tup ds => .tuple (toPys ds)
  | .lst ds => .list (toPys ds)
  | .dic kvs => .dict (kvs.map fun p => (.int p.1, .int p.2))
  | .exc k => .dict [(.int k, .none)]
def toPys : List D → List PyData
  | [] => []
  | d :: ds => toPy d :: toPys ds
end

mutual
/-- no dict within -/
def nd : D → Bool
  | .dic _ => false
  | .exc _ => false
  | .tup ds => nds ds
  | .lst ds => nds ds
  | _ => true
def nds : List D → Bool
  | [] => true
  | d :: ds => nd d && nds ds
end
theorem nds_iff : ∀ {ds : List D}, nds ds = true ↔ ∀ d ∈ ds, nd d = true
  | [] => by simp [nds]
  | d :: ds => by simp [nds, nds_iff (ds := ds)]
/-- an item of a dict of ints, on the machine -/
def kiV (p : Int × Int) : Key × V := (.inl p.1, .int p.2)
/-- what a slot may hold alone: a list, or a dict (keys: ints and texts; tuples of such) -/
inductive Bx where
  | lst (ds : List D) | dk (kvs : List (Key × D)) | dt (kvs : List (List Key × D))
instance : Coe (List D) Bx := ⟨Bx.lst⟩
/-- a slot's content: a value that nobody changes, or a box that this slot alone holds -/
inductive Sv where
  | val (d : D) | own (b : Bx)
abbrev FS := List (Option Sv)

def gt {α : Type} : List (Option α) → Nat → Option α
  | [], _ => none
  | x :: _, 0 => x
  | _ :: r, n + 1 => gt r n
def st {α : Type} : List (Option α) → Nat → Option α → List (Option α)
  | [], _, _ => []
  | _ :: r, 0, v => v :: r
  | x :: r, n + 1, v => x :: st r n v
theorem gt_iff {α : Type} : ∀ {l : List (Option α)} {i : Nat} {v : α}, gt l i = some v ↔ l[i]? = some (some v)
  | [], i, v => by simp [gt]
  | x :: r, 0, v => by simp [gt]
  | x :: r, n + 1, v => by simp [gt, gt_iff (l := r)]
theorem st_len {α : Type} : ∀ (l : List (Option α)) (i : Nat) (v : Option α), (st l i v).length = l.length
  | [], _, _ => rfl
  | _ :: _, 0, _ => rfl
  | x :: r, n + 1, v => by simp [st, st_len r n v]
theorem gt_st {α : Type} : ∀ (l : List (Option α)) (i j : Nat) (v : Option α), gt (st l i v) j = if i = j then (if i < l.length then v else none) else gt l j
  | [], i, j, v => by simp [gt, st]
  | x :: r, 0, 0, v => by simp [gt, st]
  | x :: r, 0, j + 1, v => by simp [gt, st]
  | x :: r, i + 1, 0, v => by simp [gt, st]
  | x :: r, i + 1, j + 1, v => by
    simp only [gt, st, List.length_cons, Nat.add_right_cancel_iff, Nat.add_lt_add_iff_right]
    exact gt_st r i j v
theorem gt_lt {α : Type} {l : List (Option α)} {i : Nat} {v : α} (h : gt l i = some v) : i < l.length := by
  have h' := gt_iff.mp h
  exact (List.getElem?_eq_some_iff.mp h').1

def StT (K : PySem.W.Frag) (H : Hp) (O : Addr → Prop) (a : Addr) (xs : List V) : Prop := (Rd H a (.tup xs) ∧ ¬ O a) ∨ SqT K (fun _ => none) a xs
def StL (K : PySem.W.Frag) (H : Hp) (O : Addr → Prop) (a : Addr) (xs : List V) : Prop := (Rd H a (.lst xs) ∧ ¬ O a) ∨ SqL K (fun _ => none) a xs
def StD (H : Hp) (O : Addr → Prop) (a : Addr) (kvs : List (Int × Int)) : Prop := (∃ o, H a = some (.frz o (.dK (kvs.map kiV)))) ∧ ¬ O a
def exNm : List Str := ["LaneError", "InvalidPlanError", "InvalidCarError", "InvalidNameError", "InvalidNumberError", "InvalidRowError", "InvalidLabelsError", "InvalidShapeError", "InvalidRoadError", "InvalidFormatError", "SameNameError", "TooManyError", "EmptyHistoryError"]
/-- the k-th class of the errors -/
def exC (K : PySem.W.Frag) (k : Nat) : Addr := He.ga K (exNm.getD k "")
/-- an object that stays as it is -/
def PinO (a : Addr) (oe : Obj) : HO := .ext fun h => h.get? a = some oe
/-- what an error class says to isinstance -/
structure XF (K : PySem.W.Frag) (C : Addr) : Prop where
  cc : ExcC K C
  no : ∀ t ∈ (["int", "bool", "str", "tuple", "list"] : List String), PySem.W.kitOne K (.ref C) (.type t) = some false
/-- an instance of the k-th error class, its context None -/
def StX (K : PySem.W.Frag) (H : Hp) (O : Addr → Prop) (a : Addr) (k : Nat) : Prop := (∃ oe vs, H a = some (PinO a oe) ∧ Zc (.ref (exC K k)) none oe ∧ oe.data = .fields vs ∧ vs[2]? = some .none ∧ XF K (exC K k)) ∧ ¬ O a
theorem no_rd {a : Addr} {u : HO} (h : Rd (fun _ => none) a u) : False := by
  rcases h with h | ⟨_, h⟩ <;> cases h
theorem StT.sq {K : PySem.W.Frag} {H : Hp} {O : Addr → Prop} {a : Addr} {xs : List V} (h : StT K H O a xs) : SqT K H a xs := by
  rcases h with ⟨h, _⟩ | h | h
  · exact .inl h
  · exact (no_rd h).elim
  · exact .inr h
theorem StL.sq {K : PySem.W.Frag} {H : Hp} {O : Addr → Prop} {a : Addr} {xs : List V} (h : StL K H O a xs) : SqL K H a xs := by
  rcases h with ⟨h, _⟩ | h | h
  · exact .inl h
  · exact (no_rd h).elim
  · exact .inr h
theorem rd_some {H : Hp} {a : Addr} {u : HO} (h : Rd H a u) : H a ≠ none := by
  rcases h with h | ⟨o, h⟩ <;> rw [h] <;> intro z <;> cases z
theorem rd_keep {H H' : Hp} {a : Addr} {u : HO} (h : Rd H a u) (k : ∀ o, H a = some o → H' a = some o) : Rd H' a u := by
  rcases h with h | ⟨o, h⟩
  · exact .inl (k _ h)
  · exact .inr ⟨o, k _ h⟩

mutual
inductive Rp (K : PySem.W.Frag) (H : Hp) (O : Addr → Prop) : V → D → Prop
  | non : Rp K H O .non .non
  | bl (b : Bool) : Rp K H O (.bl b) (.bl b)
  | int (i : Int) : Rp K H O (.int i) (.int i)
  | str (x : Str) : Rp K H O (.str x) (.str x)
  | tup {a : Addr} {xs : List V} {ds : List D} : StT K H O a xs → Rps K H O xs ds → Rp K H O (.ref a) (.tup ds)
  | lst {a : Addr} {xs : List V} {ds : List D} : StL K H O a xs → Rps K H O xs ds → Rp K H O (.ref a) (.lst ds)
  | dic {a : Addr} {kvs : List (Int × Int)} : StD H O a kvs → Rp K H O (.ref a) (.dic kvs)
  | exc {a : Addr} {k : Nat} : StX K H O a k → Rp K H O (.ref a) (.exc k)
inductive Rps (K : PySem.W.Frag) (H : Hp) (O : Addr → Prop) : List V → List D → Prop
  | nil : Rps K H O [] []
  | cons {v : V} {vs : List V} {d : D} {ds : List D} : Rp K H O v d → Rps K H O vs ds → Rps K H O (v :: vs) (d :: ds)
end

section
variable {K : PySem.W.Frag} {H H' : Hp} {O O' : Addr → Prop}
theorem StT.mono (k : ∀ a o, H a = some o → ¬ O a → H' a = some o) (g : ∀ a, O' a → O a ∨ H a = none) {a : Addr} {xs : List V} (h : StT K H O a xs) : StT K H' O' a xs := by
  rcases h with ⟨h, n⟩ | h
  · exact .inl ⟨rd_keep h fun o e => k a o e n, fun z => (g a z).elim n (rd_some h)⟩
  · exact .inr h
theorem StL.mono (k : ∀ a o, H a = some o → ¬ O a → H' a = some o) (g : ∀ a, O' a → O a ∨ H a = none) {a : Addr} {xs : List V} (h : StL K H O a xs) : StL K H' O' a xs := by
  rcases h with ⟨h, n⟩ | h
  · exact .inl ⟨rd_keep h fun o e => k a o e n, fun z => (g a z).elim n (rd_some h)⟩
  · exact .inr h
theorem StD.mono (k : ∀ a o, H a = some o → ¬ O a → H' a = some o) (g : ∀ a, O' a → O a ∨ H a = none) {a : Addr} {kvs : List (Int × Int)} (h : StD H O a kvs) : StD H' O' a kvs := by
  obtain ⟨⟨o, h⟩, n⟩ := h
  exact ⟨⟨o, k a _ h n⟩, fun z => (g a z).elim n fun q => by rw [h] at q; cases q⟩
theorem StX.mono (k : ∀ a o, H a = some o → ¬ O a → H' a = some o) (g : ∀ a, O' a → O a ∨ H a = none) {a : Addr} {j : Nat} (h : StX K H O a j) : StX K H' O' a j := by
  obtain ⟨⟨oe, vs, h, r⟩, n⟩ := h
  exact ⟨⟨oe, vs, k a _ h n, r⟩, fun z => (g a z).elim n fun q => by rw [h] at q; cases q⟩
mutual
theorem Rp.mono (k : ∀ a o, H a = some o → ¬ O a → H' a = some o) (g : ∀ a, O' a → O a ∨ H a = none) : ∀ {v : V} {d : D}, Rp K H O v d → Rp K H' O' v d
  | _, _, .non => .non
  | _, _, .bl b => .bl b
  | _, _, .int i => .int i
  | _, _, .str x => .str x
  | _, _, .tup h r => .tup (h.mono k g) (Rps.mono k g r)
  | _, _, .lst h r => .lst (h.mono k g) (Rps.mono k g r)
  | _, _, .dic h => .dic (h.mono k g)
  | _, _, .exc h => .exc (h.mono k g)
theorem Rps.mono (k : ∀ a o, H a = some o → ¬ O a → H' a = some o) (g : ∀ a, O' a → O a ∨ H a = none) : ∀ {v : List V} {d : List D}, Rps K H O v d → Rps K H' O' v d
  | _, _, .nil => .nil
  | _, _, .cons h r => .cons (Rp.mono k g h) (Rps.mono k g r)
end
mutual
theorem Rp.dp : ∀ {v : V} {d : D}, Rp K H O v d → nd d = true → Dp K H v (toPy d)
  | _, _, .non, _ => by unfold toPy; exact .non
  | _, _, .bl b, _ => by unfold toPy; exact .bl b
  | _, _, .int i, _ => by unfold toPy; exact .int i
  | _, _, .str x, _ => by unfold toPy; exact .str x
  | _, _, .tup h r, n => by unfold toPy; exact .tup h.sq (Rps.dp r (by simpa [nd] using n))
  | _, _, .lst h r, n => by unfold toPy; exact .lst h.sq (Rps.dp r (by simpa [nd] using n))
  | _, _, .dic h, n => by simp [nd] at n
  | _, _, .exc h, n => by simp [nd] at n
theorem Rps.dp : ∀ {v : List V} {d : List D}, Rps K H O v d → nds d = true → DpAll K H v (toPys d)
  | _, _, .nil, _ => by unfold toPys; exact .nil
  | _, _, .cons h r, n => by
    unfold toPys
    rw [nds, Bool.and_eq_true] at n
    have n' := n
    exact .cons (Rp.dp h n'.1) (Rps.dp r n'.2)
end
theorem Rps.length : ∀ {v : List V} {d : List D}, Rps K H O v d → v.length = d.length
  | _, _, .nil => rfl
  | _, _, .cons _ r => by simp [Rps.length r]
theorem Rps.get : ∀ {v : List V} {d : List D} {i : Nat} {x : D}, Rps K H O v d → d[i]? = some x → ∃ y, v[i]? = some y ∧ Rp K H O y x
  | _, _, _, _, .nil, e => by simp at e
  | _, _, 0, _, .cons h _, e => by simp at e; subst e; exact ⟨_, rfl, h⟩
  | _, _, i + 1, x, .cons _ r, e => by
    obtain ⟨y, h1, h2⟩ := Rps.get (i := i) (x := x) r (by simpa using e)
    exact ⟨y, by simpa using h1, h2⟩
theorem Rps.get' {v : List V} {d : List D} {i : Nat} {y : V} (r : Rps K H O v d) (e : v[i]? = some y) : ∃ x, d[i]? = some x ∧ Rp K H O y x := by
  have hl : i < d.length := by rw [← r.length]; exact (List.getElem?_eq_some_iff.mp e).1
  obtain ⟨y', h1, h2⟩ := r.get (List.getElem?_eq_getElem hl)
  rw [e] at h1; cases h1
  exact ⟨_, List.getElem?_eq_getElem hl, h2⟩
theorem Rps.append : ∀ {v w : List V} {d e : List D}, Rps K H O v d → Rps K H O w e → Rps K H O (v ++ w) (d ++ e)
  | _, _, _, _, .nil, s => s
  | _, _, _, _, .cons h r, s => .cons h (Rps.append r s)
theorem Rps.take : ∀ {v : List V} {d : List D} (n : Nat), Rps K H O v d → Rps K H O (v.take n) (d.take n)
  | _, _, 0, _ => by simp; exact .nil
  | _, _, _ + 1, .nil => .nil
  | _, _, n + 1, .cons h r => .cons h (Rps.take n r)
theorem Rps.drop : ∀ {v : List V} {d : List D} (n : Nat), Rps K H O v d → Rps K H O (v.drop n) (d.drop n)
  | _, _, 0, r => r
  | _, _, _ + 1, .nil => .nil
  | _, _, n + 1, .cons _ r => Rps.drop n r
theorem Rps.set {y : V} {x : D} (h : Rp K H O y x) : ∀ {v : List V} {d : List D} (i : Nat), Rps K H O v d → Rps K H O (v.set i y) (d.set i x)
  | _, _, _, .nil => .nil
  | _, _, 0, .cons _ r => .cons h r
  | _, _, i + 1, .cons q r => .cons q (Rps.set h i r)
theorem Rps.eraseIdx : ∀ {v : List V} {d : List D} (i : Nat), Rps K H O v d → Rps K H O (v.eraseIdx i) (d.eraseIdx i)
  | _, _, _, .nil => .nil
  | _, _, 0, .cons _ r => r
  | _, _, i + 1, .cons q r => .cons q (Rps.eraseIdx i r)
theorem Rps.dropLast {v : List V} {d : List D} (r : Rps K H O v d) : Rps K H O v.dropLast d.dropLast := by
  rw [List.dropLast_eq_take, List.dropLast_eq_take, r.length]
  exact r.take _
theorem Rps.reverse : ∀ {v : List V} {d : List D}, Rps K H O v d → Rps K H O v.reverse d.reverse
  | _, _, .nil => .nil
  | _, _, .cons h r => by
    rw [List.reverse_cons, List.reverse_cons]
    exact (Rps.reverse r).append (.cons h .nil)
theorem Rps.rep {v : List V} {d : List D} (r : Rps K H O v d) : ∀ k : Nat, Rps K H O (List.replicate k v).flatten (List.replicate k d).flatten
  | 0 => .nil
  | k + 1 => by
    rw [List.replicate_succ, List.replicate_succ, List.flatten_cons, List.flatten_cons]
    exact r.append (Rps.rep r k)
theorem Rps.ints : ∀ {ns : List Int}, Rps K H O (ns.map V.int) (ns.map D.int)
  | [] => .nil
  | n :: ns => .cons (.int n) Rps.ints
theorem Rps.of_ints : ∀ {v : List V} {ns : List Int}, Rps K H O v (ns.map D.int) → v = ns.map V.int
  | _, [], .nil => rfl
  | _, n :: ns, .cons (.int _) r => by rw [Rps.of_ints (ns := ns) r]; rfl
theorem Rps.of_bls : ∀ {v : List V} {ns : List Bool}, Rps K H O v (ns.map D.bl) → v = ns.map V.bl
  | _, [], .nil => rfl
  | _, n :: ns, .cons (.bl _) r => by rw [Rps.of_bls (ns := ns) r]; rfl
theorem Rps.of_strs : ∀ {v : List V} {ns : List Str}, Rps K H O v (ns.map D.str) → v = ns.map V.str
  | _, [], .nil => rfl
  | _, n :: ns, .cons (.str _) r => by rw [Rps.of_strs (ns := ns) r]; rfl
end

/-! ### slots -/
abbrev Slots := List (Option V)
def SR (K : PySem.W.Frag) (H : Hp) (O : Addr → Prop) (v : V) : Sv → Prop
  | .val d => Rp K H O v d
  | .own (.lst ds) => ∃ a xs, v = .ref a ∧ H a = some (.lst xs) ∧ Rps K H O xs ds
  | .own (.dk kvs) => ∃ a xs, v = .ref a ∧ H a = some (.dK xs) ∧ xs.map Prod.fst = kvs.map Prod.fst ∧ Rps K H O (xs.map Prod.snd) (kvs.map Prod.snd)
  | .own (.dt kvs) => ∃ a xs, v = .ref a ∧ H a = some (.dT xs) ∧ xs.map Prod.fst = kvs.map Prod.fst ∧ Rps K H O (xs.map Prod.snd) (kvs.map Prod.snd)
theorem SR.mono {K : PySem.W.Frag} {H H' : Hp} {O O' : Addr → Prop} {v : V} {sv : Sv} (h : SR K H O v sv) (k : ∀ a o, H a = some o → ¬ O a → H' a = some o) (g : ∀ a, O' a → O a ∨ H a = none)
    (ko : ∀ a b o, sv = .own b → v = .ref a → H a = some o → H' a = some o) : SR K H' O' v sv := by
  cases sv with
  | val d => exact Rp.mono k g h
  | own b =>
    cases b with
    | lst ds =>
      obtain ⟨a, xs, e, ha, r⟩ := h
      exact ⟨a, xs, e, ko a _ _ rfl e ha, r.mono k g⟩
    | dk kvs =>
      obtain ⟨a, xs, e, ha, q, r⟩ := h
      exact ⟨a, xs, e, ko a _ _ rfl e ha, q, r.mono k g⟩
    | dt kvs =>
      obtain ⟨a, xs, e, ha, q, r⟩ := h
      exact ⟨a, xs, e, ko a _ _ rfl e ha, q, r.mono k g⟩
theorem SR.own_at {K : PySem.W.Frag} {H : Hp} {O : Addr → Prop} {v : V} {b : Bx} (h : SR K H O v (.own b)) : ∃ a o, v = .ref a ∧ H a = some o ∧ SR K H O (.ref a) (.own b) := by
  cases b with
  | lst ds => obtain ⟨a, xs, e, ha, r⟩ := id h; subst e; exact ⟨a, _, rfl, ha, h⟩
  | dk kvs => obtain ⟨a, xs, e, ha, r⟩ := id h; subst e; exact ⟨a, _, rfl, ha, h⟩
  | dt kvs => obtain ⟨a, xs, e, ha, r⟩ := id h; subst e; exact ⟨a, _, rfl, ha, h⟩
def Own (σ : Slots) (S : FS) (a : Addr) : Prop := ∃ i ds, gt S i = some (.own ds) ∧ σ[i]? = some (some (.ref a))
def OO (σ : Slots) (S : FS) (Z : Addr → Prop) (a : Addr) : Prop := Own σ S a ∨ Z a

structure FCx where
  K : PySem.W.Frag
  H0 : Hp
  lent : Nat → Option Addr
  L0 : Addr → Prop
  cls : Nat → Addr

structure Fr (c : FCx) (Z : Addr → Prop) (σ : Slots) (H : Hp) (S : FS) : Prop where
  len : σ.length = S.length
  rel : ∀ i sv, gt S i = some sv → ∃ v, σ[i]? = some (some v) ∧ SR c.K H (OO σ S Z) v sv
  inj : ∀ i j ds es a, gt S i = some (.own ds) → gt S j = some (.own es) → σ[i]? = some (some (.ref a)) → σ[j]? = some (some (.ref a)) → i = j
  own : ∀ a, Own σ S a → (c.L0 a ∨ c.H0 a = none) ∧ ¬ Z a
  keep : ∀ a o, c.H0 a = some o → ¬ c.L0 a → H a = some o
  tr0 : ∀ a, c.H0 a ≠ none → H a ≠ none
  ztr : ∀ a, Z a → H a ≠ none
  lnt : ∀ i a, c.lent i = some a → σ[i]? = some (some (.ref a)) ∧ (∃ sv, gt S i = some sv) ∧ H a ≠ none ∧ ∀ j ds, gt S j = some (.own ds) → σ[j]? = some (some (.ref a)) → j = i

section
variable {c : FCx} {Z Z' : Addr → Prop} {σ : Slots} {H H' H2 : Hp} {S S' S2 : FS}
theorem Fr.own_at (f : Fr c Z σ H S) {a : Addr} (h : Own σ S a) : ∃ xs, H a = some xs := by
  obtain ⟨i, ds, h1, h2⟩ := h
  obtain ⟨v, e, r⟩ := f.rel i _ h1
  obtain ⟨b, xs, e1, e2, _⟩ := r.own_at
  rw [h2] at e
  injection e with e; injection e with e
  rw [e1] at e; injection e with e; subst e
  exact ⟨xs, e2⟩
theorem trk_mono (k : ∀ a o, H a = some o → H' a = some o) (a : Addr) (h : H a ≠ none) : H' a ≠ none := by
  cases q : H a with
  | none => exact (h q).elim
  | some o => rw [k a o q]; intro z; cases z
/-- new objects -/
theorem Fr.alloc (f : Fr c Z σ H S) (k : ∀ a o, H a = some o → H' a = some o) : Fr c Z σ H' S :=
  ⟨f.len, fun i sv h => let ⟨v, e, r⟩ := f.rel i sv h; ⟨v, e, r.mono (fun a o e _ => k a o e) (fun _ z => .inl z) fun a _ xs _ _ e => k a _ e⟩, f.inj, f.own,
    fun a o e n => k a o (f.keep a o e n), fun a h => trk_mono k a (f.tr0 a h), fun a z => trk_mono k a (f.ztr a z), fun i a h => let ⟨h1, h2, h3, h4⟩ := f.lnt i a h; ⟨h1, h2, trk_mono k a h3, h4⟩⟩
/-- fewer forbidden places -/
theorem Fr.sub (f : Fr c Z' σ H S) (k : ∀ a, Z a → Z' a) : Fr c Z σ H S :=
  ⟨f.len, fun i sv h => let ⟨v, e, r⟩ := f.rel i sv h; ⟨v, e, r.mono (fun a o e _ => e) (fun a z => .inl (z.elim .inl fun q => .inr (k a q))) fun a _ xs _ _ e => e⟩, f.inj, fun a h => ⟨(f.own a h).1, fun z => (f.own a h).2 (k a z)⟩,
    f.keep, f.tr0, fun a z => f.ztr a (k a z), f.lnt⟩
theorem Fr.not_own (f : Fr c Z σ H S) {p : Addr} (hn : H p = none) : ¬ Own σ S p := fun z => by
  obtain ⟨xs, e⟩ := f.own_at z
  rw [hn] at e; cases e
/-- further forbidden places: new ones -/
theorem Fr.add (f : Fr c Z σ H S) (hp : ∀ a, Z' a → H' a ≠ none) (hn : ∀ a, Z' a → Z a ∨ H a = none) (k : ∀ a o, H a = some o → H' a = some o) : Fr c Z' σ H' S := by
  have g := f.alloc k
  refine ⟨g.len, fun i sv h => ?_, g.inj, fun a h => ⟨(g.own a h).1, fun z => ?_⟩, g.keep, g.tr0, hp, g.lnt⟩
  · obtain ⟨v, e, r⟩ := f.rel i sv h
    refine ⟨v, e, r.mono (fun a o e _ => k a o e) (fun a z => ?_) fun a _ xs _ _ e => k a _ e⟩
    rcases z with z | z
    · exact .inl (.inl z)
    · exact (hn a z).elim (fun q => .inl (.inr q)) .inr
  · rcases hn a z with q | q
    · exact (f.own a h).2 q
    · exact f.not_own q h

structure Step (c : FCx) (Z : Addr → Prop) (σ : Slots) (H : Hp) (S : FS) (σ' : Slots) (H' : Hp) (S' : FS) : Prop where
  fr : Fr c Z σ' H' S'
  keep : ∀ a o, H a = some o → ¬ Own σ S a → H' a = some o
  ow : ∀ a, Own σ' S' a → Own σ S a ∨ H a = none
  tr : ∀ a, H a ≠ none → H' a ≠ none
theorem Fr.step (f : Fr c Z σ H S) : Step c Z σ H S σ H S := ⟨f, fun _ _ e _ => e, fun _ h => .inl h, fun _ h => h⟩
theorem Step.trans {σ1 σ2 : Slots} (x : Step c Z' σ H S σ1 H' S') (y : Step c Z σ1 H' S' σ2 H2 S2) : Step c Z σ H S σ2 H2 S2 := by
  have k : ∀ a o, H a = some o → ¬ Own σ S a → ¬ Own σ1 S' a := fun a o e n z => (x.ow a z).elim n fun q => by rw [e] at q; cases q
  refine ⟨y.fr, fun a o e n => y.keep a o (x.keep a o e n) (k a o e n), fun a z => ?_, fun a h => y.tr a (x.tr a h)⟩
  by_cases n : Own σ S a
  · exact .inl n
  · cases q : H a with
    | none => exact .inr rfl
    | some o => exact (y.ow a z).elim (fun w => (k a o q n w).elim) fun w => by rw [x.keep a o q n] at w; cases w
theorem Step.sub {σ1 : Slots} (x : Step c Z' σ H S σ1 H' S') (k : ∀ a, Z a → Z' a) : Step c Z σ H S σ1 H' S' := ⟨x.fr.sub k, x.keep, x.ow, x.tr⟩
theorem Fr.stepA (f : Fr c Z σ H S) (k : ∀ a o, H a = some o → H' a = some o) : Step c Z σ H S σ H' S := ⟨f.alloc k, fun a o e _ => k a o e, fun _ h => .inl h, trk_mono k⟩
theorem Step.non {σ1 : Slots} (x : Step c Z σ H S σ1 H' S') {a : Addr} (h : H' a = none) : H a = none := by
  cases q : H a with
  | none => rfl
  | some o => exact (x.tr a (by rw [q]; intro z; cases z) h).elim
theorem Step.gO {σ1 : Slots} (x : Step c Z' σ H S σ1 H' S') (g : ∀ a, Z' a → Z a ∨ H a = none) : ∀ a, OO σ1 S' Z' a → OO σ S Z a ∨ H a = none := fun a z => by
  rcases z with z | z
  · exact (x.ow a z).elim (fun q => .inl (.inl q)) .inr
  · exact (g a z).elim (fun q => .inl (.inr q)) .inr
theorem Step.kO {σ1 : Slots} (x : Step c Z' σ H S σ1 H' S') : ∀ a o, H a = some o → ¬ OO σ S Z a → H' a = some o := fun a o e n => x.keep a o e fun z => n (.inl z)
theorem Step.rp {σ1 : Slots} (x : Step c Z' σ H S σ1 H' S') (g : ∀ a, Z' a → Z a ∨ H a = none) {v : V} {d : D} (h : Rp c.K H (OO σ S Z) v d) : Rp c.K H' (OO σ1 S' Z') v d := h.mono x.kO (x.gO g)
theorem Step.rps {σ1 : Slots} (x : Step c Z' σ H S σ1 H' S') (g : ∀ a, Z' a → Z a ∨ H a = none) {v : List V} {d : List D} (h : Rps c.K H (OO σ S Z) v d) : Rps c.K H' (OO σ1 S' Z') v d := h.mono x.kO (x.gO g)
end

theorem upd_keep {H : Hp} {p : Addr} {o : HO} (h : H p = none) : ∀ a u, H a = some u → upd H p o a = some u := fun a u e => by
  rw [upd_ne (ne_of_none e h)]; exact e
theorem upd_some {H : Hp} {p : Addr} {o : HO} : upd H p o p ≠ none := by rw [upd_same]; intro z; cases z

/-! ### what an expression leaves: a value of its own, or the list of a slot -/
inductive Arg where
  | tmp (s : Sv) | ref (i : Nat)
/-- the lists that the values at hand hold themselves -/
def tmpA : V → Arg → List Addr
  | .ref a, .tmp (.own _) => [a]
  | _, _ => []
def tmpAs : List V → List Arg → List Addr
  | v :: vs, x :: xs => tmpA v x ++ tmpAs vs xs
  | _, _ => []
/-- O: what may not be reached -/
def AR (c : FCx) (O : Addr → Prop) (σ : Slots) (H : Hp) (v : V) : Arg → Prop
  | .tmp s => SR c.K H O v s
  | .ref i => σ[i]? = some (some v)
inductive ARs (c : FCx) (O : Addr → Prop) (σ : Slots) (H : Hp) : List V → List Arg → Prop
  | nil : ARs c O σ H [] []
  | cons {v vs x xs} : AR c O σ H v x → ARs c O σ H vs xs → ARs c O σ H (v :: vs) (x :: xs)
def Zt (Z : Addr → Prop) (T : List Addr) (a : Addr) : Prop := Z a ∨ a ∈ T
theorem Zt.nil {Z : Addr → Prop} {a : Addr} (h : Zt Z [] a) : Z a := h.elim id fun z => nomatch z
/-- what an expression has left -/
structure Got (c : FCx) (Z : Addr → Prop) (σ : Slots) (H : Hp) (S : FS) (H' : Hp) (S' : FS) (v : V) (x : Arg) : Prop where
  step : Step c (Zt Z (tmpA v x)) σ H S σ H' S'
  ar : AR c (OO σ S' (Zt Z (tmpA v x))) σ H' v x
  new : ∀ a ∈ tmpA v x, H a = none
structure Gots (c : FCx) (Z : Addr → Prop) (σ : Slots) (H : Hp) (S : FS) (H' : Hp) (S' : FS) (vs : List V) (xs : List Arg) : Prop where
  step : Step c (Zt Z (tmpAs vs xs)) σ H S σ H' S'
  ar : ARs c (OO σ S' (Zt Z (tmpAs vs xs))) σ H' vs xs
  new : ∀ a ∈ tmpAs vs xs, H a = none
  nd : (tmpAs vs xs).Nodup
section
variable {c : FCx} {Z Z' : Addr → Prop} {σ : Slots} {H H' H2 : Hp} {S S' S2 : FS} {v : V} {x : Arg} {vs : List V} {xs : List Arg}
theorem AR.mono {O O' : Addr → Prop} (h : AR c O σ H v x) (k : ∀ a o, H a = some o → ¬ O a → H' a = some o) (g : ∀ a, O' a → O a ∨ H a = none) (ko : ∀ a ∈ tmpA v x, ∀ o, H a = some o → H' a = some o) : AR c O' σ H' v x := by
  cases x with
  | ref i => exact h
  | tmp s =>
    refine SR.mono h k g fun a ds xs e1 e2 e => ?_
    subst e1; subst e2
    exact ko a (by simp [tmpA]) _ e
/-- a value at hand, behind a further step -/
theorem Got.onto (x1 : Got c Z σ H S H' S' v x) {Z2 : Addr → Prop} (y : Step c Z2 σ H' S' σ H2 S2) (g : ∀ a, Z2 a → Zt Z (tmpA v x) a ∨ H' a = none) : AR c (OO σ S2 Z2) σ H2 v x :=
  x1.ar.mono y.kO (y.gO g) fun a ha o e => y.keep a o e fun z => (x1.step.fr.own a z).2 (.inr ha)
theorem Gots.nil (f : Fr c Z σ H S) : Gots c Z σ H S H S [] [] := ⟨(f.step).sub fun _ h => Zt.nil h, .nil, fun _ h => (nomatch h), List.nodup_nil⟩
theorem Gots.cons (x1 : Got c Z σ H S H' S' v x) (y : Gots c (Zt Z (tmpA v x)) σ H' S' H2 S2 vs xs) : Gots c Z σ H S H2 S2 (v :: vs) (x :: xs) := by
  have e : ∀ a, Zt Z (tmpAs (v :: vs) (x :: xs)) a ↔ Zt (Zt Z (tmpA v x)) (tmpAs vs xs) a := fun a => by
    simp only [Zt, tmpAs, List.mem_append, or_assoc]
  have s2 : Step c (Zt Z (tmpAs (v :: vs) (x :: xs))) σ H' S' σ H2 S2 := y.step.sub fun a => (e a).mp
  have ee : Zt Z (tmpAs (v :: vs) (x :: xs)) = Zt (Zt Z (tmpA v x)) (tmpAs vs xs) := funext fun a => propext (e a)
  refine ⟨x1.step.trans s2, .cons (x1.onto s2 fun a z => ?_) (by rw [ee]; exact y.ar), fun a h => ?_, ?_⟩
  · rcases (e a).mp z with z | z
    · exact .inl z
    · exact .inr (y.new a z)
  · rcases List.mem_append.mp h with h | h
    · exact x1.new a h
    · exact x1.step.non (y.new a h)
  · refine List.nodup_append.mpr ⟨?_, y.nd, fun a ha b hb e => ?_⟩
    · cases v <;> cases x <;> (try simp [tmpA])
      rename_i s; cases s <;> simp [tmpA]
    · subst e
      exact x1.step.fr.ztr a (.inr ha) (y.new a hb)
end
end FL

set_option maxRecDepth 100000
set_option maxHeartbeats 4000000
/-! What the operators do with trees, and that Python's do so. -/
namespace FL
open PySem PySem.Spec PyProof.Rows L2

inductive BOp where
  | add | sub | mul | fdiv | mod | pow | shr
inductive COp where
  | eq | ne | lt | le | gt | ge | isN | notN | isin | notin

@[irreducible] def lineN : Nat := 16777216
theorem lineN_val : lineN = 16777216 := by unfold lineN; rfl
theorem lineN_eq : lineN = sizeLine := by rw [sizeLine_eq, lineN_val]

/-- x op y -/
def binD : BOp → D → D → Option Sv
  | .add, .int i, .int j => some (.val (.int (i + j)))
  | .add, .str a, .str b => if a.length + b.length ≤ lineN then some (.val (.str (a ++ b))) else none
  | .add, .lst a, .lst b => if a.length + b.length ≤ lineN then some (.own (a ++ b)) else none
  | .add, .tup a, .tup b => if a.length + b.length ≤ lineN then some (.val (.tup (a ++ b))) else none
  | .sub, .int i, .int j => some (.val (.int (i - j)))
  | .mul, .int i, .int j => if i.natAbs.log2 + j.natAbs.log2 < 1000000 then some (.val (.int (i * j))) else none
  | .mul, .str a, .int j => if j < 1000000 ∧ -1000000 < j ∧ a.length * j.toNat ≤ lineN then some (.val (.str (Txt.mul a j))) else none
  | .fdiv, .int i, .int j => if 0 < j ∧ j.natAbs.log2 < 9000 then some (.val (.int (i / j))) else none
  | .mod, .int i, .int j => if 0 < j then some (.val (.int (i % j))) else none
  | .pow, .int i, .int j => if 0 ≤ j ∧ (Builtin.Int.intBits i : Int) * j ≤ 134217728 then some (.val (.int (i ^ j.toNat))) else none
  | .shr, .int i, .int j => if 0 ≤ j then some (.val (.int (i / 2 ^ j.toNat))) else none
  | _, _, _ => none

/-- the truth of a comparison -/
def flatD : D → Bool
  | .non => true | .bl _ => true | .int _ => true | .str _ => true
  | .tup _ => false | .lst _ => false | .dic _ => false | .exc _ => false
@[irreducible] def eqD (d e : D) : Option Bool := if SeqAt.shaped (toPy d) = true ∧ SeqAt.shaped (toPy e) = true then some (PyData.eqv (toPy d) (toPy e)) else none
@[irreducible] def inD (d : D) : D → Option Bool
  | .lst es => if SeqAt.shaped (toPy d) = true ∧ SeqAt.shaped (.list (toPys es)) = true then some ((toPys es).any fun z => PyData.eqv z (toPy d)) else none
  | .tup es => if flatD d = true ∧ es.all flatD = true then some ((toPys es).any fun z => PyData.eqv z (toPy d)) else none
  | .str z => match d with
    | .str ⟨⟨[c]⟩⟩ => some (decide (c ∈ z.cps.toList))
    | .str x => some (!(Builtin.Str.occurrences z x 0 z.length 1).isEmpty)
    | _ => none
  | _ => none
@[irreducible] def ltT (xs ys : List D) : Option Bool := if TO.cmpAll (toPys xs) (toPys ys) = true ∧ nds xs = true ∧ nds ys = true ∧ (toPy (.tup xs)).depth ≤ 64 then some (PySem.W.dataLt (.tuple (toPys xs)) (.tuple (toPys ys))) else none
def cmpD : COp → D → D → Option Bool
  | .eq, d, e => eqD d e
  | .ne, d, e => (eqD d e).map (!·)
  | .lt, .int i, .int j => some (decide (i < j))
  | .lt, .tup xs, .tup ys => ltT xs ys
  | .le, .int i, .int j => some (decide (i ≤ j))
  | .gt, .int i, .int j => some (decide (j < i))
  | .ge, .int i, .int j => some (decide (j ≤ i))
  | .isN, d, .non => some (match d with | .non => true | _ => false)
  | .notN, d, .non => some (match d with | .non => false | _ => true)
  | .isin, d, e => inD d e
  | .notin, d, e => (inD d e).map (!·)
  | _, _, _ => none
/-- truth of a value -/
def truD : D → Option Bool
  | .non => some false
  | .bl b => some b
  | .int i => some (i != 0)
  | .str x => if x.length ≤ lineN then some ((x.length : Int) != 0) else none
  | .tup ds => some (!ds.isEmpty)
  | .lst ds => some (!ds.isEmpty)
  | .dic _ => none
  | .exc _ => none
/-- x[i] -/
def ixD : D → D → Option D
  | .lst ds, .int i => atI ds i
  | .tup ds, .int i => atI ds i
  | .str z, .int i => if z.length ≤ lineN then (atI z.cps.toList i).map fun c => .str ⟨#[c]⟩ else none
  | _, _ => none
def cutL {α : Type} (xs : List α) (lo hi : Option Int) : List α := (xs.drop (HT.sIx xs.length 0 lo)).take (HT.sIx xs.length xs.length hi - HT.sIx xs.length 0 lo)
/-- x[lo:hi] -/
def slD : D → Option Int → Option Int → Option Sv
  | .lst ds, lo, hi => some (.own (cutL ds lo hi))
  | .tup ds, lo, hi => some (.val (.tup (cutL ds lo hi)))
  | .str z, lo, hi => if z.length ≤ lineN then some (.val (.str (cutS z lo hi))) else none
  | _, _, _ => none

/-! ### a result: a value known already, or one new object -/
def New (K : PySem.W.Frag) (O : Addr → Prop) (H : Hp) (sv : Sv) (v : V) (H' : Hp) : Prop :=
  match sv with
  | .val d => (H' = H ∧ Rp K H O v d) ∨ ∃ p xs ds, d = .tup ds ∧ H p = none ∧ v = .ref p ∧ H' = upd H p (.tup xs) ∧ Rps K H O xs ds
  | .own (.lst ds) => ∃ p xs, H p = none ∧ v = .ref p ∧ H' = upd H p (.lst xs) ∧ Rps K H O xs ds
  | .own (.dk kvs) => ∃ p xs, H p = none ∧ v = .ref p ∧ H' = upd H p (.dK xs) ∧ xs.map Prod.fst = kvs.map Prod.fst ∧ Rps K H O (xs.map Prod.snd) (kvs.map Prod.snd)
  | .own (.dt kvs) => ∃ p xs, H p = none ∧ v = .ref p ∧ H' = upd H p (.dT xs) ∧ xs.map Prod.fst = kvs.map Prod.fst ∧ Rps K H O (xs.map Prod.snd) (kvs.map Prod.snd)
theorem New.own_at {K : PySem.W.Frag} {O : Addr → Prop} {H H' : Hp} {b : Bx} {v : V} (n : New K O H (.own b) v H') : ∃ p o, H p = none ∧ v = .ref p ∧ H' = upd H p o ∧ ∀ O' : Addr → Prop, (∀ a, O' a → O a ∨ H a = none) → SR K H' O' v (.own b) := by
  cases b with
  | lst ds =>
    obtain ⟨p, xs, hp, e1, e2, r⟩ := n
    subst e1; subst e2
    exact ⟨p, _, hp, rfl, rfl, fun O' g => ⟨p, xs, rfl, upd_same, r.mono (fun a o e _ => upd_keep hp a o e) g⟩⟩
  | dk ds =>
    obtain ⟨p, xs, hp, e1, e2, q, r⟩ := n
    subst e1; subst e2
    exact ⟨p, _, hp, rfl, rfl, fun O' g => ⟨p, xs, rfl, upd_same, q, r.mono (fun a o e _ => upd_keep hp a o e) g⟩⟩
  | dt ds =>
    obtain ⟨p, xs, hp, e1, e2, q, r⟩ := n
    subst e1; subst e2
    exact ⟨p, _, hp, rfl, rfl, fun O' g => ⟨p, xs, rfl, upd_same, q, r.mono (fun a o e _ => upd_keep hp a o e) g⟩⟩
/-- a value as it is read -/
def Vw (K : PySem.W.Frag) (H : Hp) (O : Addr → Prop) (v : V) : D → Prop
  | .lst ds => ∃ a xs, v = .ref a ∧ SqL K H a xs ∧ Rps K H O xs ds
  | d => Rp K H O v d
section
variable {K : PySem.W.Frag} {H : Hp} {O : Addr → Prop} {v : V} {d : D}
theorem Rp.vw (h : Rp K H O v d) : Vw K H O v d := by
  cases h with
  | lst h r => exact ⟨_, _, rfl, h.sq, r⟩
  | non => exact .non
  | bl b => exact .bl b
  | int b => exact .int b
  | str b => exact .str b
  | tup h r => exact .tup h r
  | dic h => exact .dic h
  | exc h => exact .exc h
theorem Vw.dp (h : Vw K H O v d) (n : nd d = true) : Dp K H v (toPy d) := by
  cases d with
  | lst ds =>
    obtain ⟨a, xs, rfl, h, r⟩ := h
    unfold toPy
    exact .lst h (r.dp (by simpa [nd] using n))
  | _ => exact Rp.dp h n
theorem Vw.dic {kvs : List (Int × Int)} (h : Vw K H O v (.dic kvs)) : ∃ a, v = .ref a ∧ StD H O a kvs := by
  cases h with | dic h => exact ⟨_, rfl, h⟩
theorem Vw.exc {k : Nat} (h : Vw K H O v (.exc k)) : ∃ a, v = .ref a ∧ StX K H O a k := by
  cases h with | exc h => exact ⟨_, rfl, h⟩
theorem Vw.int {i : Int} (h : Vw K H O v (.int i)) : v = .int i := by cases h; rfl
theorem Vw.str {i : Str} (h : Vw K H O v (.str i)) : v = .str i := by cases h; rfl
theorem Vw.bl {i : Bool} (h : Vw K H O v (.bl i)) : v = .bl i := by cases h; rfl
theorem Vw.non (h : Vw K H O v .non) : v = .non := by cases h; rfl
theorem Vw.tup {ds : List D} (h : Vw K H O v (.tup ds)) : ∃ a xs, v = .ref a ∧ SqT K H a xs ∧ Rps K H O xs ds ∧ Rp K H O v (.tup ds) := by
  have h' : Rp K H O v (.tup ds) := h
  cases h with | tup h r => exact ⟨_, _, rfl, h.sq, r, h'⟩
theorem Vw.lst {ds : List D} (h : Vw K H O v (.lst ds)) : ∃ a xs, v = .ref a ∧ SqL K H a xs ∧ Rps K H O xs ds := h
theorem Rps.atI {xs : List V} {ds : List D} {i : Int} {x : D} (r : Rps K H O xs ds) (e : atI ds i = some x) : ∃ y, L2.atI xs i = some y ∧ Rp K H O y x := by
  unfold L2.atI at e ⊢
  rw [r.length]
  cases q : ixN ds.length i with
  | none => rw [q] at e; cases e
  | some j =>
    rw [q] at e
    exact r.get e
theorem Rps.cut {xs : List V} {ds : List D} (r : Rps K H O xs ds) (lo hi : Option Int) : Rps K H O (cutV xs lo hi) (cutL ds lo hi) := by
  unfold cutV cutL
  rw [r.length]
  exact (r.drop _).take _
end

/-- how an operator is read -/
def rB (K : PySem.W.Frag) (o : BOp) : R2 := fun x y H Q => ∃ O d e sv, Vw K H O x d ∧ Vw K H O y e ∧ binD o d e = some sv ∧ ∀ v H', New K O H sv v H' → Q v H'
def rC (K : PySem.W.Frag) (o : COp) : R2 := fun x y H Q => ∃ O d e b, Vw K H O x d ∧ Vw K H O y e ∧ cmpD o d e = some b ∧ Q (.bl b) H

section
variable {X : Cx}
theorem op_catS : OpR X (binaryOp .Add) (fun x y H Q => ∃ l b xs zs, x = .ref l ∧ y = .ref b ∧ SqL X.K H l xs ∧ SqL X.K H b zs ∧ xs.length + zs.length ≤ sizeLine ∧ ∀ p, H p = none → Q (.ref p) (upd H p (.lst (xs ++ zs)))) := by
  intro pins s σ H x y v u Q I rx ry ⟨l, b, xs, zs, ex, ey, hl, hb, hz, q⟩
  subst ex; subst ey
  cases rx
  cases ry
  obtain ⟨its, r1, ⟨⟨c1, d1, t1, s1⟩, n1, e1, f1, g1, k1⟩, _⟩ := I.list hl
  obtain ⟨its2, r2, ⟨⟨c2, d2, t2, s2⟩, n2, e2, f2, g2, k2⟩, _⟩ := I.list hb
  cases f1; cases g1; cases k1; cases f2; cases g2; cases k2
  have z1 := r1.length
  have z2 := r2.length
  refine concat_meets ⟨_, e1, rfl⟩ ⟨_, e2, rfl⟩ noFill_list_add seq_list_add PySem.F.slot_list_add PySem.F.entry_list_add (PySem.F.args_list_add_2 _ _)
    (list_addW l b its.toArray its2.toArray n1 n2 none none s1 s2 (by simp only [List.size_toArray]; omega)) ⟨e1, e2, ?_⟩
  have ea : its.toArray ++ its2.toArray = (its ++ its2).toArray := by simp
  rw [ea]
  exact ⟨.ref _, _, I.lnew (t' := s.toks) (r1.append r2) (by rw [List.length_append]; omega), rfl, q _ I.fresh⟩
end
end FL

set_option maxRecDepth 100000
set_option maxHeartbeats 4000000
namespace FL
open PySem PySem.Spec PyProof.Rows L2

def BOp.py : BOp → Operator
  | .add => .Add | .sub => .Sub | .mul => .Mult | .fdiv => .FloorDiv | .mod => .Mod | .pow => .Pow | .shr => .RShift
def COp.py : COp → CmpOp
  | .eq => .Eq | .ne => .NotEq | .lt => .Lt | .le => .LtE | .gt => .Gt | .ge => .GtE | .isN => .Is | .notN => .IsNot | .isin => .In | .notin => .NotIn

section
variable {X : Cx}
theorem new_int {K : PySem.W.Frag} {O : Addr → Prop} {H : Hp} {i : Int} : New K O H (.val (.int i)) (.int i) H := .inl ⟨rfl, .int i⟩
theorem new_str {K : PySem.W.Frag} {O : Addr → Prop} {H : Hp} {i : Str} : New K O H (.val (.str i)) (.str i) H := .inl ⟨rfl, .str i⟩
theorem mulOk_of {a : Str} {j : Int} (h : j < 1000000 ∧ -1000000 < j ∧ a.length * j.toNat ≤ lineN) : MulOk a j := by
  obtain ⟨h1, h2, h3⟩ := h
  have hl := h3
  rw [lineN_val] at hl
  rw [lineN_eq] at h3
  refine ⟨?_, fun g1 g2 => ?_, fun _ _ => ?_⟩
  · have e1 : decide (j < -(2 ^ 63 : Int)) = false := decide_eq_false (by omega)
    have e2 : decide (j ≥ (2 ^ 63 : Int)) = false := decide_eq_false (by omega)
    rw [e1, e2]; rfl
  · have hj : 0 < j := by omega
    have e : (a.length : Int) * j ≤ 16777216 := by
      have q : ((a.length * j.toNat : Nat) : Int) ≤ (16777216 : Nat) := Int.ofNat_le.mpr hl
      rw [Int.natCast_mul, Int.toNat_of_nonneg (by omega)] at q
      exact q
    have : (a.length : Int) ≤ (2 ^ 63 - 1) / j := by
      refine (Int.le_ediv_iff_mul_le hj).mpr ?_
      omega
    omega
  · unfold Builtin.Str.tooLong
    exact decide_eq_false (by omega)
theorem eqD_some {d e : D} {b : Bool} (h : eqD d e = some b) : SeqAt.shaped (toPy d) = true ∧ SeqAt.shaped (toPy e) = true ∧ PyData.eqv (toPy d) (toPy e) = b := by
  unfold eqD at h
  split at h
  · rename_i z
    exact ⟨z.1, z.2, Option.some.inj h⟩
  · cases h
theorem op_b (o : BOp) : OpR X (binaryOp o.py) (rB X.K o) := by
  intro pins s σ H x y v u Q I rx ry ⟨O, d, e, sv, hd, he, hb, q⟩
  unfold binD at hb
  split at hb
  · cases hb; cases hd.int; cases he.int
    exact op_add pins s σ H _ _ v u Q I rx ry ⟨_, _, rfl, rfl, q _ _ new_int⟩
  · split at hb
    · rename_i hz
      cases hb; cases hd.str; cases he.str
      exact op_add_str pins s σ H _ _ v u Q I rx ry ⟨_, _, rfl, rfl, by rw [← lineN_eq]; exact hz, q _ _ new_str⟩
    · cases hb
  · split at hb
    · rename_i hz
      cases hb
      obtain ⟨p, xs, rfl, sx, r⟩ := hd
      obtain ⟨p', ys, rfl, sy, r'⟩ := he
      exact op_catS pins s σ H _ _ v u Q I rx ry ⟨p, p', xs, ys, rfl, rfl, sx, sy, by rw [← lineN_eq, r.length, r'.length]; exact hz, fun a na => q _ _ ⟨a, _, na, rfl, rfl, r.append r'⟩⟩
    · cases hb
  · split at hb
    · rename_i a b hz
      cases hb
      obtain ⟨p, xs, rfl, sx, r, rx0⟩ := hd.tup
      obtain ⟨p', ys, rfl, sy, r', ry0⟩ := he.tup
      refine op_catA pins s σ H _ _ v u Q I rx ry ⟨p, p', xs, ys, rfl, rfl, sx, sy, by rw [← lineN_eq, r.length, r'.length]; exact hz, fun e => ?_, fun _ e => ?_, fun _ _ a na => ?_⟩
      · subst e; cases r
        exact q _ _ (.inl ⟨rfl, ry0⟩)
      · subst e; cases r'
        rw [List.append_nil] at q
        exact q _ _ (.inl ⟨rfl, rx0⟩)
      · exact q _ _ (.inr ⟨a, _, _, rfl, na, rfl, rfl, r.append r'⟩)
    · cases hb
  · cases hb; cases hd.int; cases he.int
    exact op_sub pins s σ H _ _ v u Q I rx ry ⟨_, _, rfl, rfl, q _ _ new_int⟩
  · split at hb
    · rename_i hz
      cases hb; cases hd.int; cases he.int
      exact op_mulW pins s σ H _ _ v u Q I rx ry ⟨_, _, rfl, rfl, hz, q _ _ new_int⟩
    · cases hb
  · split at hb
    · rename_i hz
      cases hb; cases hd.str; cases he.int
      obtain ⟨t, rfl⟩ := rx
      obtain ⟨t', rfl⟩ := ry
      exact SB.mul (mulOk_of hz) fun t2 k => ⟨.str _, H, I.tok _, ⟨_, rfl⟩, q _ _ new_str⟩
    · cases hb
  · split at hb
    · rename_i hz
      cases hb; cases hd.int; cases he.int
      exact op_fdivW pins s σ H _ _ v u Q I rx ry ⟨_, _, rfl, rfl, hz, q _ _ new_int⟩
    · cases hb
  · split at hb
    · rename_i hz
      cases hb; cases hd.int; cases he.int
      exact op_mod pins s σ H _ _ v u Q I rx ry ⟨_, _, rfl, rfl, hz, q _ _ new_int⟩
    · cases hb
  · split at hb
    · rename_i hz
      cases hb; cases hd.int; cases he.int
      obtain ⟨t, rfl⟩ := rx
      obtain ⟨t', rfl⟩ := ry
      exact pow_int hz.1 (by have := hz.2; omega) ⟨.int _, H, I.tok _, ⟨_, rfl⟩, q _ _ new_int⟩
    · cases hb
  · split at hb
    · rename_i hz
      cases hb; cases hd.int; cases he.int
      exact op_shr pins s σ H _ _ v u Q I rx ry ⟨_, _, rfl, rfl, hz, q _ _ new_int⟩
    · cases hb
  · cases hb

mutual
theorem nd_of_lay : ∀ d : D, (toPy d).canLay0 = true → nd d = true
  | .non, _ => rfl
  | .bl _, _ => rfl
  | .int _, _ => rfl
  | .str _, _ => rfl
  | .tup ds, h => by
    have := nds_of_lay ds (by simpa [toPy, PyData.canLay0] using h)
    simpa [nd] using this
  | .lst ds, h => by
    have := nds_of_lay ds (by simpa [toPy, PyData.canLay0] using h)
    simpa [nd] using this
  | .dic _, h => by simp [toPy, PyData.canLay0] at h
  | .exc _, h => by simp [toPy, PyData.canLay0] at h
theorem nds_of_lay : ∀ ds : List D, PyData.canLayAll0 (toPys ds) = true → nds ds = true
  | [], _ => rfl
  | d :: ds, h => by
    have h' : (toPy d).canLay0 = true ∧ PyData.canLayAll0 (toPys ds) = true := by simpa [toPys, PyData.canLayAll0] using h
    simp only [nds, nd_of_lay d h'.1, nds_of_lay ds h'.2, Bool.and_self]
end
theorem nd_of_shaped {d : D} (h : SeqAt.shaped (toPy d) = true) : nd d = true := by
  unfold SeqAt.shaped at h
  rw [Bool.and_eq_true] at h
  exact nd_of_lay d h.1
theorem flat_eqv {K : PySem.W.Frag} {H : Hp} {O : Addr → Prop} {v u : V} {d e : D} (h : Rp K H O v d) (g : Rp K H O u e) (f1 : flatD d = true) (f2 : flatD e = true) : flatV v = true ∧ flatV u = true ∧ eqV v u = PyData.eqv (toPy d) (toPy e) := by
  cases h <;> cases g <;> first | (cases f1; done) | (cases f2; done) | skip
  all_goals simp [flatV, eqV, toPy, PyData.eqv]
theorem flat_in {K : PySem.W.Frag} {H : Hp} {O : Addr → Prop} {v : V} {d : D} (h : Rp K H O v d) (f1 : flatD d = true) : ∀ {us : List V} {es : List D}, Rps K H O us es → es.all flatD = true →
    us.all flatV = true ∧ inV v us = (toPys es).any fun z => PyData.eqv z (toPy d)
  | _, _, .nil, _ => ⟨rfl, by unfold toPys; rfl⟩
  | _, _, .cons g r, f => by
    rw [List.all_cons, Bool.and_eq_true] at f
    obtain ⟨h1, h2⟩ := flat_in h f1 r f.2
    obtain ⟨g1, g2, g3⟩ := flat_eqv g h f.1 f1
    refine ⟨by rw [List.all_cons, g1, h1]; rfl, ?_⟩
    unfold inV at h2 ⊢
    rw [List.any_cons, h2, g3]
    simp only [toPys, List.any_cons]
theorem flat_v {K : PySem.W.Frag} {H : Hp} {O : Addr → Prop} {v : V} {d : D} (h : Rp K H O v d) (f1 : flatD d = true) : flatV v = true := (flat_eqv h h f1 f1).1
theorem op_in (neg : Bool) (hu : X.A.units + 65 < cLine) {pins : List (Addr × Obj)} {s : Shared} {σ : L2.St} {H : Hp} {x y : V} {v u : Value} {Q : VK} (I : Inv X pins σ H s) (rx : RelV x v) (ry : RelV y u) {O : Addr → Prop} {d e : D} {b : Bool}
    (hd : Vw X.K H O x d) (he : Vw X.K H O y e) (h : inD d e = some b) (q : Q (.bl (if neg then !b else b)) H) : wpAny (model X.prog X.w) X.A (compareOp (if neg then .NotIn else .In) v u) (EP X pins σ Q) X.xe s := by
  unfold inD at h
  split at h
  · split at h
    · rename_i z
      cases h
      have he' := he.dp (nd_of_shaped (by unfold toPy; exact z.2))
      unfold toPy at he'
      cases neg
      · exact op_inD hu pins s σ H x y v u Q I rx ry ⟨_, _, hd.dp (nd_of_shaped z.1), he', z.1, z.2, q⟩
      · exact op_notInD hu pins s σ H x y v u Q I rx ry ⟨_, _, hd.dp (nd_of_shaped z.1), he', z.1, z.2, q⟩
    · cases h
  · split at h
    · rename_i z
      cases h
      obtain ⟨p', ys, rfl, sy, r', ry0⟩ := he.tup
      have hd' : Rp X.K H O x d := by
        cases d with
        | lst => cases z.1
        | dic => cases z.1
        | exc => cases z.1
        | _ => exact hd
      obtain ⟨f1, f2⟩ := flat_in hd' z.1 r' z.2
      rw [← f2] at q
      cases neg
      · exact op_in_seq pins s σ H x _ v u Q I rx ry ⟨_, _, rfl, .inr sy, flat_v hd' z.1, f1, q⟩
      · exact op_notIn_seq pins s σ H x _ v u Q I rx ry ⟨_, _, rfl, .inr sy, flat_v hd' z.1, f1, q⟩
    · cases h
  · cases he.str
    split at h
    · cases h; cases hd.str
      cases neg
      · exact op_in_sign pins s σ H _ _ v u Q I rx ry ⟨_, _, rfl, rfl, q⟩
      · exact op_notIn_sign pins s σ H _ _ v u Q I rx ry ⟨_, _, rfl, rfl, q⟩
    · cases h; cases hd.str
      cases neg
      · exact op_in_str pins s σ H _ _ v u Q I rx ry ⟨_, _, rfl, rfl, q⟩
      · exact op_notin_str pins s σ H _ _ v u Q I rx ry ⟨_, _, rfl, rfl, q⟩
    · cases h
  · cases h
mutual
theorem toPy_plain : ∀ d : D, nd d = true → (toPy d).plain = true
  | .non, _ => rfl
  | .bl _, _ => rfl
  | .int _, _ => rfl
  | .str _, _ => rfl
  | .tup ds, h => by simpa [toPy, PyData.plain] using toPys_plain ds (by simpa [nd] using h)
  | .lst ds, h => by simpa [toPy, PyData.plain] using toPys_plain ds (by simpa [nd] using h)
  | .dic _, h => by simp [nd] at h
  | .exc _, h => by simp [nd] at h
theorem toPys_plain : ∀ ds : List D, nds ds = true → PyData.plainAll (toPys ds) = true
  | [], _ => rfl
  | d :: ds, h => by
    have h' : nd d = true ∧ nds ds = true := by simpa [nds] using h
    simp only [toPys, PyData.plainAll, toPy_plain d h'.1, toPys_plain ds h'.2, Bool.and_self]
end
theorem op_c (o : COp) (hu : X.A.units + 65 < cLine) : OpR X (compareOp o.py) (rC X.K o) := by
  intro pins s σ H x y v u Q I rx ry ⟨O, d, e, b, hd, he, hb, q⟩
  unfold cmpD at hb
  split at hb
  · obtain ⟨h1, h2, h3⟩ := eqD_some hb
    exact op_eqD (by omega) pins s σ H x y v u Q I rx ry ⟨_, _, hd.dp (nd_of_shaped h1), he.dp (nd_of_shaped h2), h1, h2, by rw [h3]; exact q⟩
  · cases g : eqD d e with
    | none => rw [g] at hb; cases hb
    | some b' =>
      rw [g] at hb; cases hb
      obtain ⟨h1, h2, h3⟩ := eqD_some g
      exact op_neD (by omega) pins s σ H x y v u Q I rx ry ⟨_, _, hd.dp (nd_of_shaped h1), he.dp (nd_of_shaped h2), h1, h2, by rw [h3]; exact q⟩
  · cases hb; cases hd.int; cases he.int
    exact op_lt pins s σ H _ _ v u Q I rx ry ⟨_, _, rfl, rfl, q⟩
  · rename_i xs ys
    unfold ltT at hb
    split at hb
    · rename_i hk
      cases hb
      have n1 : nd (.tup xs) = true := by simpa [nd] using hk.2.1
      have n2 : nd (.tup ys) = true := by simpa [nd] using hk.2.2.1
      obtain ⟨as, ra⟩ := Dp.reads I _ _ _ (hd.dp n1) rx
      obtain ⟨bs, rb⟩ := Dp.reads I _ _ _ (he.dp n2) ry
      unfold toPy at ra rb
      have hk2 := hk.2.2.2
      unfold toPy at hk2
      have p1 := toPy_plain (.tup xs) n1
      have p2 := toPy_plain (.tup ys) n2
      unfold toPy at p1 p2
      have hc : TO.cmpOk (.tuple (toPys xs)) (.tuple (toPys ys)) = true := by rw [TO.cmpOk]; exact hk.1
      exact TO.lt_cmp _ _ X.A s v u as bs ra rb hc p1 p2 (by omega) X.prog X.w X.xe _ ⟨.bl _, H, I, rfl, q⟩
    · cases hb
  · cases hb; cases hd.int; cases he.int
    exact op_le pins s σ H _ _ v u Q I rx ry ⟨_, _, rfl, rfl, q⟩
  · cases hb; cases hd.int; cases he.int
    exact op_gt pins s σ H _ _ v u Q I rx ry ⟨_, _, rfl, rfl, q⟩
  · cases hb; cases hd.int; cases he.int
    exact op_ge pins s σ H _ _ v u Q I rx ry ⟨_, _, rfl, rfl, q⟩
  · cases he.non
    refine op_isN pins s σ H x _ v u Q I rx ry ⟨rfl, ?_⟩
    have eb := Option.some.inj hb
    subst eb
    cases d with
    | non => cases hd.non; exact q
    | bl _ => cases hd.bl; exact q
    | int _ => cases hd.int; exact q
    | str _ => cases hd.str; exact q
    | tup _ => obtain ⟨_, _, rfl, _⟩ := hd.tup; exact q
    | lst _ => obtain ⟨_, _, rfl, _⟩ := hd; exact q
    | dic _ => obtain ⟨_, rfl, _⟩ := hd.dic; exact q
    | exc _ => obtain ⟨_, rfl, _⟩ := hd.exc; exact q
  · cases he.non
    refine op_notN pins s σ H x _ v u Q I rx ry ⟨rfl, ?_⟩
    have eb := Option.some.inj hb
    subst eb
    cases d with
    | non => cases hd.non; exact q
    | bl _ => cases hd.bl; exact q
    | int _ => cases hd.int; exact q
    | str _ => cases hd.str; exact q
    | tup _ => obtain ⟨_, _, rfl, _⟩ := hd.tup; exact q
    | lst _ => obtain ⟨_, _, rfl, _⟩ := hd; exact q
    | dic _ => obtain ⟨_, rfl, _⟩ := hd.dic; exact q
    | exc _ => obtain ⟨_, rfl, _⟩ := hd.exc; exact q
  · exact op_in false hu I rx ry hd he hb q
  · cases g : inD d e with
    | none => rw [g] at hb; cases hb
    | some b' =>
      rw [g] at hb; cases hb
      exact op_in true hu I rx ry hd he g q
  · cases hb
/-- truth -/
theorem tru_v {H : Hp} {O : Addr → Prop} {x : V} {d : D} {b : Bool} (hd : Vw X.K H O x d) (h : truD d = some b) : TruV X.K x H b := by
  cases d with
  | non => cases hd.non; cases h; rfl
  | bl _ => cases hd.bl; cases h; rfl
  | int _ => cases hd.int; cases h; rfl
  | str _ =>
    cases hd.str
    simp only [truD] at h
    split at h
    · rename_i z
      cases h
      exact ⟨by rw [← lineN_eq]; exact z, rfl⟩
    · cases h
  | tup ds =>
    obtain ⟨p, xs, rfl, sx, r, _⟩ := hd.tup
    cases h
    exact .inr (.inl ⟨xs, sx, by have := r.length; cases xs <;> cases ds <;> simp_all⟩)
  | lst ds =>
    obtain ⟨p, xs, rfl, sx, r⟩ := hd
    cases h
    exact .inl ⟨xs, sx, by have := r.length; cases xs <;> cases ds <;> simp_all⟩
  | dic _ => cases h
  | exc _ => cases h
/-- x[i] -/
def rX (K : PySem.W.Frag) : R2 := fun x y H Q => ∃ O d e r, Vw K H O x d ∧ Vw K H O y e ∧ ixD d e = some r ∧ ∀ v, Rp K H O v r → Q v H
theorem ix_d : IxR X (rX X.K) := by
  intro va sl pins s σ H x y v u Q I rx ry ⟨O, d, e, r, hd, he, hb, q⟩ hs
  unfold ixD at hb
  split at hb
  · cases he.int
    obtain ⟨p, xs, rfl, sx, rr⟩ := hd
    obtain ⟨y, h1, h2⟩ := rr.atI hb
    refine ix_list va sl pins s σ H _ _ v u Q I rx ry ⟨_, _, _, _, rfl, rfl, sx, h1, q y h2⟩ hs
  · cases he.int
    obtain ⟨p, xs, rfl, sx, rr, _⟩ := hd.tup
    obtain ⟨y, h1, h2⟩ := rr.atI hb
    refine ix_tup va sl pins s σ H _ _ v u Q I rx ry ⟨_, _, _, _, rfl, rfl, sx, h1, q y h2⟩ hs
  · split at hb
    · rename_i z i hz
      cases he.int; cases hd.str
      cases g : L2.atI z.cps.toList i with
      | none => rw [g] at hb; cases hb
      | some c =>
        rw [g] at hb; cases hb
        refine ix_str va sl pins s σ H _ _ v u Q I rx ry ⟨_, _, _, rfl, rfl, by rw [← lineN_eq]; exact hz, g, q _ (.str _)⟩ hs
    · cases hb
  · cases hb
/-- x[lo:hi] -/
def rS (K : PySem.W.Frag) : V → Option Int → Option Int → Hp → VK → Prop := fun x lo hi H Q => ∃ O d sv, Vw K H O x d ∧ slD d lo hi = some sv ∧ ∀ v H', New K O H sv v H' → Q v H'
theorem cutV_whole {xs : List V} {lo hi : Option Int} (h : HT.sIx xs.length 0 lo = 0 ∧ HT.sIx xs.length xs.length hi = xs.length) : cutV xs lo hi = xs := by
  unfold cutV
  rw [h.1, h.2]
  simp
theorem sl_d : SlR X (rS X.K) := by
  intro pins s σ H x v vl vu lo hi sl Q I rx hs pl pu ⟨O, d, sv, hd, hb, q⟩
  unfold slD at hb
  split at hb
  · cases hb
    obtain ⟨p, xs, rfl, sx, r⟩ := hd
    exact sl_list pins s σ H _ v vl vu lo hi sl Q I rx hs pl pu ⟨_, _, rfl, sx, fun a na => q _ _ ⟨a, _, na, rfl, rfl, r.cut lo hi⟩⟩
  · cases hb
    obtain ⟨p, xs, rfl, sx, r, rx0⟩ := hd.tup
    refine sl_tupA pins s σ H _ v vl vu lo hi sl Q I rx hs pl pu ⟨_, _, rfl, sx, fun w => ?_, fun w a na => ?_⟩
    · have rc := r.cut lo hi
      rw [cutV_whole w] at rc
      refine q _ _ (.inl ⟨rfl, ?_⟩)
      cases rx0 with
      | tup g r2 =>
        refine .tup g ?_
        have e := I.tuple_inj g.sq sx
        subst e
        exact rc
    · exact q _ _ (.inr ⟨a, _, _, rfl, na, rfl, rfl, r.cut lo hi⟩)
  · split at hb
    · rename_i hz
      cases hb; cases hd.str
      exact sl_str pins s σ H _ v vl vu lo hi sl Q I rx hs pl pu ⟨_, rfl, by rw [← lineN_eq]; exact hz, q _ _ new_str⟩
    · cases hb
  · cases hb
end
end FL

set_option maxRecDepth 100000
set_option maxHeartbeats 4000000
/-! Expressions over trees, run by the machine. -/
namespace FL
open PySem PySem.Spec PyProof.Rows L2

inductive R (α : Type) where
  | ok (a : α) (S : FS) | ex (k : Nat) (S : FS) | no
def R.bind {α β : Type} (r : R α) (f : α → FS → R β) : R β := match r with
  | .ok a S => f a S
  | .ex k S => .ex k S
  | .no => .no
def R.of {α : Type} (o : Option α) (S : FS) : R α := match o with
  | some a => .ok a S
  | none => .no

/-- look at what is at hand -/
def pk (S : FS) : Arg → Option D
  | .tmp (.val d) => some d
  | .tmp (.own (.lst ds)) => some (.lst ds)
  | .tmp (.own _) => none
  | .ref i => match gt S i with
    | some (.val d) => some d
    | some (.own (.lst ds)) => some (.lst ds)
    | _ => none
/-- take it as a value that nobody changes from now on -/
def tk (S : FS) : Arg → Option (D × FS)
  | .tmp (.val d) => some (d, S)
  | .tmp (.own (.lst ds)) => some (.lst ds, S)
  | .tmp (.own _) => none
  | .ref i => match gt S i with
    | some (.val d) => some (d, S)
    | some (.own (.lst ds)) => some (.lst ds, st S i (some (.val (.lst ds))))
    | _ => none
def tks : List Arg → FS → Option (List D × FS)
  | [], S => some ([], S)
  | x :: xs, S => (tk S x).bind fun p => (tks xs p.2).bind fun q => some (p.1 :: q.1, q.2)

section
variable {c : FCx} {Z Z2 : Addr → Prop} {σ : Slots} {H H' H2 : Hp} {S S' S2 : FS} {v : V} {x : Arg} {d : D}
theorem pk_vw (f : Fr c Z σ H S) (a : AR c (OO σ S Z) σ H v x) (h : pk S x = some d) : Vw c.K H (OO σ S Z) v d := by
  cases x with
  | tmp s =>
    cases s with
    | val e => cases h; exact Rp.vw a
    | own b =>
      cases b with
      | lst ds =>
        cases h
        obtain ⟨p, xs, e, h1, h2⟩ := a
        exact ⟨p, xs, e, .of h1, h2⟩
      | dk _ => cases h
      | dt _ => cases h
  | ref i =>
    have a : σ[i]? = some (some v) := a
    simp only [pk] at h
    split at h
    · rename_i e q
      cases h
      obtain ⟨u, e1, r⟩ := f.rel i _ q
      rw [a] at e1; cases e1
      exact Rp.vw r
    · rename_i ds q
      cases h
      obtain ⟨u, e1, p, xs, e2, h1, h2⟩ := f.rel i _ q
      rw [a] at e1; cases e1
      exact ⟨p, xs, e2, .of h1, h2⟩
    · cases h
theorem tmpA_val {d : D} : tmpA v (.tmp (.val d)) = [] := by cases v <;> rfl
theorem Fr.freeze (f : Fr c Z σ H S) {i : Nat} {ds : List D} (h : gt S i = some (.own ds)) (hv : σ[i]? = some (some v)) :
    Fr c Z σ H (st S i (some (.val (.lst ds)))) ∧ Rp c.K H (OO σ (st S i (some (.val (.lst ds)))) Z) v (.lst ds) ∧ ∀ a, Own σ (st S i (some (.val (.lst ds)))) a → Own σ S a := by
  obtain ⟨u, e, a, xs, eu, ha, r⟩ := f.rel i _ h
  rw [hv] at e
  have e' : u = v := by injection e with e; injection e with e; exact e.symm
  subst e'; subst eu
  have hi := gt_lt h
  have ow : ∀ b, Own σ (st S i (some (.val (.lst ds)))) b → Own σ S b ∧ b ≠ a := fun b ⟨j, es, h1, h2⟩ => by
    rw [gt_st] at h1
    by_cases hj : i = j
    · rw [if_pos hj, if_pos hi] at h1; cases h1
    · rw [if_neg hj] at h1
      refine ⟨⟨j, es, h1, h2⟩, fun z => ?_⟩
      subst z
      exact hj (f.inj i j ds es _ h h1 hv h2)
  have oa : Own σ S a := ⟨i, ds, h, hv⟩
  have g : ∀ b, OO σ (st S i (some (.val (.lst ds)))) Z b → OO σ S Z b ∨ H b = none := fun b z => .inl (z.elim (fun q => .inl (ow b q).1) .inr)
  have no : ¬ OO σ (st S i (some (.val (.lst ds)))) Z a := fun z => z.elim (fun q => (ow a q).2 rfl) (f.own a oa).2
  have rp : Rp c.K H (OO σ (st S i (some (.val (.lst ds)))) Z) (.ref a) (.lst ds) := .lst (.inl ⟨.inl ha, no⟩) (r.mono (fun _ _ e _ => e) g)
  refine ⟨⟨by rw [st_len]; exact f.len, fun j sv hj => ?_, fun j k es es' b h1 h2 h3 h4 => ?_, fun b hb => f.own b (ow b hb).1, f.keep, f.tr0, f.ztr, fun j b hb => ?_⟩, rp, fun b hb => (ow b hb).1⟩
  · rw [gt_st] at hj
    by_cases e : i = j
    · rw [if_pos e, if_pos hi] at hj
      cases hj; subst e
      exact ⟨_, hv, rp⟩
    · rw [if_neg e] at hj
      obtain ⟨w, e1, rw'⟩ := f.rel j sv hj
      exact ⟨w, e1, rw'.mono (fun _ _ e _ => e) g fun _ _ _ _ _ e => e⟩
  · rw [gt_st] at h1 h2
    by_cases e1 : i = j
    · rw [if_pos e1, if_pos hi] at h1; cases h1
    · by_cases e2 : i = k
      · rw [if_pos e2, if_pos hi] at h2; cases h2
      · rw [if_neg e1] at h1; rw [if_neg e2] at h2
        exact f.inj j k es es' b h1 h2 h3 h4
  · obtain ⟨h1, ⟨sv, h2⟩, h3, h4⟩ := f.lnt j b hb
    refine ⟨h1, ?_, h3, fun k es q1 q2 => ?_⟩
    · rw [gt_st]
      by_cases e : i = j
      · rw [if_pos e, if_pos hi]; exact ⟨_, rfl⟩
      · rw [if_neg e]; exact ⟨sv, h2⟩
    · rw [gt_st] at q1
      by_cases e : i = k
      · rw [if_pos e, if_pos hi] at q1; cases q1
      · rw [if_neg e] at q1; exact h4 k es q1 q2
/-- Z: what was forbidden at the start; T: the new lists -/
theorem tk_step {T : List Addr} (f0 : Fr c Z σ H S) (x1 : Step c (Zt Z T) σ H S σ H2 S2) (a : AR c (OO σ S2 (Zt Z T)) σ H2 v x) (new : ∀ a ∈ tmpA v x, H a = none) (hT : ∀ a ∈ tmpA v x, a ∈ T) {S3 : FS} (h : tk S2 x = some (d, S3)) :
    Step c (Zt Z T) σ H S σ H2 S3 ∧ Rp c.K H2 (OO σ S3 Z) v d := by
  have sub : ∀ {S : FS} a, OO σ S Z a → OO σ S (Zt Z T) a ∨ H2 a = none := fun a z => .inl (z.elim .inl fun q => .inr (.inl q))
  cases x with
  | tmp s =>
    cases s with
    | val e => cases h; exact ⟨x1, Rp.mono (fun _ _ e _ => e) sub a⟩
    | own b =>
      cases b with
      | dk _ => cases h
      | dt _ => cases h
      | lst ds =>
        cases h
        obtain ⟨p, xs, e, h1, h2⟩ := a
        subst e
        refine ⟨x1, .lst (.inl ⟨.inl h1, fun z => ?_⟩) (h2.mono (fun _ _ e _ => e) sub)⟩
        rcases z with z | z
        · exact (x1.fr.own p z).2 (.inr (hT p (by simp [tmpA])))
        · exact f0.ztr p z (new p (by simp [tmpA]))
  | ref i =>
    have a : σ[i]? = some (some v) := a
    simp only [tk] at h
    split at h
    · rename_i e q
      cases h
      obtain ⟨u, e1, r⟩ := x1.fr.rel i _ q
      rw [a] at e1; cases e1
      exact ⟨x1, Rp.mono (fun _ _ e _ => e) sub r⟩
    · rename_i ds q
      cases h
      obtain ⟨g, r, ow⟩ := x1.fr.freeze q a
      exact ⟨⟨g, x1.keep, fun b hb => x1.ow b (ow b hb), x1.tr⟩, Rp.mono (fun _ _ e _ => e) sub r⟩
    · cases h
theorem tks_step {T : List Addr} (f0 : Fr c Z σ H S) : ∀ {xs : List Arg} {vs : List V} {S2 : FS} {ds : List D} {S3 : FS}, Step c (Zt Z T) σ H S σ H2 S2 → ARs c (OO σ S2 (Zt Z T)) σ H2 vs xs → (∀ a ∈ tmpAs vs xs, H a = none) → (∀ a ∈ tmpAs vs xs, a ∈ T) →
    tks xs S2 = some (ds, S3) → Step c (Zt Z T) σ H S σ H2 S3 ∧ Rps c.K H2 (OO σ S3 Z) vs ds ∧ ∀ a, Own σ S3 a → Own σ S2 a
  | [], _, _, _, _, x1, .nil, _, _, h => by cases h; exact ⟨x1, .nil, fun _ h => h⟩
  | x :: xs, v :: vs, S2, ds, S3, x1, .cons a r, new, hT, h => by
    simp only [tks] at h
    cases q : tk S2 x with
    | none => rw [q] at h; cases h
    | some p =>
      obtain ⟨d, S4⟩ := p
      rw [q] at h
      have h : ((tks xs S4).bind fun q => some (d :: q.1, q.2)) = some (ds, S3) := h
      cases q2 : tks xs S4 with
      | none => rw [q2] at h; cases h
      | some p2 =>
        obtain ⟨es, S5⟩ := p2
        rw [q2] at h
        cases h
        have new1 : ∀ a ∈ tmpA _ x, H a = none := fun a h => new a (List.mem_append_left _ h)
        have hT1 : ∀ a ∈ tmpA _ x, a ∈ T := fun a h => hT a (List.mem_append_left _ h)
        obtain ⟨x2, r2⟩ := tk_step f0 x1 a new1 hT1 q
        have ow1 : ∀ b, Own σ S4 b → Own σ S2 b := by
          cases x with
          | tmp s =>
            cases s with
            | val _ => cases q; exact fun _ h => h
            | own b => cases b <;> (cases q; try exact fun _ h => h)
          | ref i =>
            simp only [tk] at q
            split at q
            · cases q; exact fun _ h => h
            · rename_i ds q'
              cases q
              exact (x1.fr.freeze q' (show σ[i]? = some (some _) from a)).2.2
            · cases q
        have mono : ∀ {S S' : FS}, (∀ b, Own σ S' b → Own σ S b) → ∀ (Z : Addr → Prop) a, OO σ S' Z a → OO σ S Z a ∨ H2 a = none := fun h Z a z => .inl (z.elim (fun q => .inl (h a q)) .inr)
        have r' : ARs c (OO σ S4 (Zt Z T)) σ H2 vs xs := by
          clear h q q2 new hT
          induction r with
          | nil => exact .nil
          | cons a r ih => exact .cons (a.mono (fun _ _ e _ => e) (mono ow1 _) fun _ _ _ e => e) ih
        obtain ⟨x3, r3, ow2⟩ := tks_step f0 x2 r' (fun a h => new a (List.mem_append_right _ h)) (fun a h => hT a (List.mem_append_right _ h)) q2
        exact ⟨x3, .cons (r2.mono (fun _ _ e _ => e) (mono ow2 _)) r3, fun b hb => ow1 b (ow2 b hb)⟩
/-- a result at hand -/
theorem got_new {sv : Sv} (f0 : Fr c Z σ H S) (x1 : Step c Z2 σ H S σ H2 S2) (hZ : ∀ a, Z a → Z2 a) (n : New c.K (OO σ S2 Z2) H2 sv v H') : Got c Z σ H S H' S2 v (.tmp sv) := by
  have x0 : Step c Z σ H S σ H2 S2 := x1.sub hZ
  cases sv with
  | val d =>
    have n : (H' = H2 ∧ Rp c.K (H2) (OO σ S2 Z2) v d) ∨ ∃ p xs ds, d = .tup ds ∧ H2 p = none ∧ v = .ref p ∧ H' = upd H2 p (.tup xs) ∧ Rps c.K H2 (OO σ S2 Z2) xs ds := n
    have z0 : ∀ a, Zt Z (tmpA v (.tmp (.val d))) a → Z a := fun a z => by rw [tmpA_val] at z; exact Zt.nil z
    have sub : ∀ a, OO σ S2 (Zt Z (tmpA v (.tmp (.val d)))) a → OO σ S2 Z2 a ∨ H2 a = none := fun a z => .inl (z.elim .inl fun q => .inr (hZ a (z0 a q)))
    rcases n with ⟨e, r⟩ | ⟨p, xs, ds, e1, hp, e2, e3, r⟩
    · subst e
      exact ⟨x0.sub z0, Rp.mono (fun _ _ e _ => e) sub r, fun a h => by rw [tmpA_val] at h; cases h⟩
    · subst e1; subst e2; subst e3
      refine ⟨(x0.trans (x0.fr.stepA (upd_keep hp))).sub z0, .tup (.inl ⟨.inl upd_same, fun z => ?_⟩) (r.mono (fun a o e _ => upd_keep hp a o e) sub), fun a h => by rw [tmpA_val] at h; cases h⟩
      rcases z with z | z
      · exact x0.fr.not_own hp z
      · exact x0.fr.ztr p (z0 p z) hp
  | own b =>
    obtain ⟨p, o, hp, e1, e2, r⟩ := New.own_at n
    subst e1; subst e2
    have sub : ∀ a, OO σ S2 (Zt Z [p]) a → OO σ S2 Z2 a ∨ H2 a = none := fun a z => by
      rcases z with z | z | z
      · exact .inl (.inl z)
      · exact .inl (.inr (hZ a z))
      · have : a = p := by simpa using z
        subst this; exact .inr hp
    have k := upd_keep (o := o) hp
    have fr' : Fr c (Zt Z [p]) σ (upd H2 p o) S2 := x0.fr.add (fun a z => by
      rcases z with z | z
      · exact trk_mono k a (x0.fr.ztr a z)
      · have : a = p := by simpa using z
        subst this; exact upd_some) (fun a z => by
      rcases z with z | z
      · exact .inl z
      · have : a = p := by simpa using z
        subst this; exact .inr hp) k
    refine ⟨⟨fr', fun a o e n => k a o (x0.keep a o e n), x0.ow, fun a h => trk_mono k a (x0.tr a h)⟩, r _ sub, fun a h => ?_⟩
    have : a = p := by simpa [tmpA] using h
    subst this
    exact x0.non hp
end

/-! ### readings -/
def PostE (c : FCx) (W : WX) (Z : Addr → Prop) (σ : Slots) (H : Hp) (S : FS) (r : R Arg) (Q : VK) : Prop := match r with
  | .ok x S' => ∀ v H', Got c Z σ H S H' S' v x → Q v H'
  | .ex k S' => ∀ H', Step c Z σ H S σ H' S' → W (.ref (c.cls k)) none σ H'
  | .no => False
def PostA (c : FCx) (W : WX) (Z : Addr → Prop) (σ : Slots) (H : Hp) (S : FS) (r : R (List Arg)) (Q : List V → Hp → Prop) : Prop := match r with
  | .ok xs S' => ∀ vs H', Gots c Z σ H S H' S' vs xs → Q vs H'
  | .ex k S' => ∀ H', Step c Z σ H S σ H' S' → W (.ref (c.cls k)) none σ H'
  | .no => False
def PostT (c : FCx) (W : WX) (Z : Addr → Prop) (σ : Slots) (H : Hp) (S : FS) (r : R Bool) (Q : Bool → Hp → Prop) : Prop := match r with
  | .ok b S' => ∀ H', Step c Z σ H S σ H' S' → Q b H'
  | .ex k S' => ∀ H', Step c Z σ H S σ H' S' → W (.ref (c.cls k)) none σ H'
  | .no => False
abbrev FE := FS → R Arg
abbrev FA := FS → R (List Arg)
abbrev FT := FS → R Bool
def tE (c : FCx) (W : WX) (f : FE) : TE := fun σ H Q => ∃ Z S, Fr c Z σ H S ∧ PostE c W Z σ H S (f S) Q
def tA (c : FCx) (W : WX) (f : FA) : TA := fun σ H Q => ∃ Z S, Fr c Z σ H S ∧ PostA c W Z σ H S (f S) Q
def tT (c : FCx) (W : WX) (f : FT) : TT := fun σ H Q => ∃ Z S, Fr c Z σ H S ∧ PostT c W Z σ H S (f S) Q

theorem PE_imp {X : Cx} {e : Expr} {t t' : TE} (h : PE X e t) (i : ∀ σ H Q, t' σ H Q → t σ H Q) : PE X e t' := ⟨fun pins s σ H Q I q => h.run pins s σ H Q I (i σ H Q q)⟩
theorem PA_imp {X : Cx} {e : List Expr} {t t' : TA} (h : PA X e t) (i : ∀ σ H Q, t' σ H Q → t σ H Q) : PA X e t' := ⟨fun pos pins s σ H Q I q => h.run pos pins s σ H Q I (i σ H Q q)⟩
theorem PT_imp {X : Cx} {e : Expr} {t t' : TT} (h : PT X e t) (i : ∀ σ H Q, t' σ H Q → t σ H Q) : PT X e t' := ⟨fun pins s σ H Q I q => h.run pins s σ H Q I (i σ H Q q)⟩

section
variable {c : FCx} {W : WX} {Z Z2 : Addr → Prop} {σ : Slots} {H H' H1 H2 : Hp} {S S' S1 S2 : FS} {v : V} {x : Arg} {d : D}
/-- the wish about exceptions, at a later state -/
abbrev ExW (c : FCx) (W : WX) (Z : Addr → Prop) (σ : Slots) (H : Hp) (S : FS) (i : Nat) (S' : FS) : Prop := ∀ H', Step c Z σ H S σ H' S' → W (.ref (c.cls i)) none σ H'
theorem ExW.later {i : Nat} (h : ExW c W Z σ H S i S') (x : Step c Z2 σ H S σ H1 S1) (hZ : ∀ a, Z a → Z2 a) : ExW c W Z2 σ H1 S1 i S' := fun H' y => h H' ((x.trans y).sub hZ)
theorem tE_bind {α : Type} {f : FE} {k : Arg → FS → R α} {post : R α → Prop} {Q1 : VK} (fr : Fr c Z σ H S) (h : post ((f S).bind k)) (hex : ∀ i S', post (.ex i S') → ExW c W Z σ H S i S') (hno : post .no → False)
    (hok : ∀ x S1, post (k x S1) → ∀ v H1, Got c Z σ H S H1 S1 v x → Q1 v H1) : tE c W f σ H Q1 := by
  refine ⟨Z, S, fr, ?_⟩
  cases q : f S with
  | ok x S1 => rw [q] at h; exact hok x S1 h
  | ex i S1 => rw [q] at h; exact hex i S1 h
  | no => rw [q] at h; exact hno h
theorem tA_bind {α : Type} {f : FA} {k : List Arg → FS → R α} {post : R α → Prop} {Q1 : List V → Hp → Prop} (fr : Fr c Z σ H S) (h : post ((f S).bind k)) (hex : ∀ i S', post (.ex i S') → ExW c W Z σ H S i S') (hno : post .no → False)
    (hok : ∀ x S1, post (k x S1) → ∀ v H1, Gots c Z σ H S H1 S1 v x → Q1 v H1) : tA c W f σ H Q1 := by
  refine ⟨Z, S, fr, ?_⟩
  cases q : f S with
  | ok x S1 => rw [q] at h; exact hok x S1 h
  | ex i S1 => rw [q] at h; exact hex i S1 h
  | no => rw [q] at h; exact hno h
theorem tT_bind {α : Type} {f : FT} {k : Bool → FS → R α} {post : R α → Prop} {Q1 : Bool → Hp → Prop} (fr : Fr c Z σ H S) (h : post ((f S).bind k)) (hex : ∀ i S', post (.ex i S') → ExW c W Z σ H S i S') (hno : post .no → False)
    (hok : ∀ x S1, post (k x S1) → ∀ H1, Step c Z σ H S σ H1 S1 → Q1 x H1) : tT c W f σ H Q1 := by
  refine ⟨Z, S, fr, ?_⟩
  cases q : f S with
  | ok x S1 => rw [q] at h; exact hok x S1 h
  | ex i S1 => rw [q] at h; exact hex i S1 h
  | no => rw [q] at h; exact hno h
theorem of_post {α : Type} {o : Option α} {S : FS} {post : R α → Prop} (h : post (R.of o S)) (hno : post .no → False) : ∃ a, o = some a ∧ post (.ok a S) := by
  cases o with
  | none => exact (hno h).elim
  | some a => exact ⟨a, rfl, h⟩
theorem zl {T : List Addr} : ∀ a, Z a → Zt Z T a := fun _ h => .inl h
end

/-! ### the forms -/
def rSlot (i : Nat) : FE := fun S => match gt S i with
  | some (.val d) => .ok (.tmp (.val d)) S
  | some (.own _) => .ok (.ref i) S
  | none => .no
def rCst (d : D) : FE := fun S => .ok (.tmp (.val d)) S
def rBin (o : BOp) (fa fb : FE) : FE := fun S => (fa S).bind fun x S1 => (fb S1).bind fun y S2 => .of ((pk S2 x).bind fun d => (pk S2 y).bind fun e => (binD o d e).map Arg.tmp) S2
def rNeg (fa : FE) : FE := fun S => (fa S).bind fun x S1 => .of ((pk S1 x).bind fun d => match d with | .int i => some (.tmp (.val (.int (-i)))) | _ => none) S1
def rCmp (o : COp) (fa fb : FE) : FT := fun S => (fa S).bind fun x S1 => (fb S1).bind fun y S2 => .of ((pk S2 x).bind fun d => (pk S2 y).bind fun e => cmpD o d e) S2
def rB2V (f : FT) : FE := fun S => (f S).bind fun b S1 => .ok (.tmp (.val (.bl b))) S1
def rTru (fa : FE) : FT := fun S => (fa S).bind fun x S1 => .of ((pk S1 x).bind truD) S1
def rIx (fa fb : FE) : FE := fun S => (fa S).bind fun x S1 => (fb S1).bind fun y S2 => .of ((pk S2 x).bind fun d => (pk S2 y).bind fun e => (ixD d e).map fun r => Arg.tmp (.val r)) S2
def rIte (t : FT) (fa fb : FE) : FE := fun S => (t S).bind fun b S1 => if b = true then fa S1 else fb S1
def rNil : FA := fun S => .ok [] S
def rCons (fa : FE) (fs : FA) : FA := fun S => (fa S).bind fun x S1 => (fs S1).bind fun xs S2 => .ok (x :: xs) S2
def itsD : D → Option (List D)
  | .lst ds => some ds
  | .tup ds => some ds
  | _ => none
def rStar (fa : FE) (fs : FA) : FA := fun S => (fa S).bind fun x S1 => match (pk S1 x).bind itsD with
  | some ds => (fs S1).bind fun xs S2 => .ok (ds.map (fun d => Arg.tmp (.val d)) ++ xs) S2
  | none => .no
def rDisp (k : List D → Sv) (fs : FA) : FE := fun S => (fs S).bind fun xs S1 => match tks xs S1 with
  | some (ds, S2) => if ds.length ≤ lineN then .ok (.tmp (k ds)) S2 else .no
  | none => .no
def rTup (fs : FA) : FE := rDisp (fun ds => .val (.tup ds)) fs
def rLst (fs : FA) : FE := rDisp (fun ds => .own ds) fs

section
variable {X : Cx} {c : FCx} {W : WX} {a b e : Expr} {es : List Expr} {fa fb : FE} {fs : FA} {pos : Pos}
theorem sd_slot {i : Nat} {x : Str} (hN : X.N[i]? = some x) (hv : Vis X.env.scope x) (hd : (x == ("__debug__" : Str)) = false) (hcd : (x == ("__classdict__" : Str)) = false) : PE X (.Name x pos) (tE c W (rSlot i)) := by
  refine PE_imp (pe_var hN hv hd hcd) fun σ H Q ⟨Z, S, fr, h⟩ => ?_
  unfold rSlot at h
  split at h
  · rename_i d q
    obtain ⟨v, e, r⟩ := fr.rel i _ q
    exact ⟨v, e, h v H (got_new fr fr.step (fun _ h => h) (.inl ⟨rfl, r⟩))⟩
  · rename_i ds q
    obtain ⟨v, e, r⟩ := fr.rel i _ q
    have t0 : tmpA v (.ref i) = [] := by cases v <;> rfl
    exact ⟨v, e, h v H ⟨fr.step.sub fun a z => by rw [t0] at z; exact Zt.nil z, e, fun a z => by rw [t0] at z; cases z⟩⟩
  · exact h.elim
theorem sd_cst {d : D} {v : V} (hv : PE X e (tC v)) (r : ∀ H O, Rp c.K H O v d) : PE X e (tE c W (rCst d)) :=
  PE_imp hv fun σ H Q ⟨Z, S, fr, h⟩ => h v H (got_new fr fr.step (fun _ h => h) (.inl ⟨rfl, r _ _⟩))
theorem sd_bin {o : BOp} (hK : c.K = X.K) (ha : PE X a (tE c W fa)) (hb : PE X b (tE c W fb)) : PE X (.BinOp a o.py b pos) (tE c W (rBin o fa fb)) := by
  refine PE_imp (pe_op (op_b o) ha hb) fun σ H Q ⟨Z, S, fr, h⟩ => ?_
  refine tE_bind (post := fun r => PostE c W Z σ H S r Q) fr h (fun _ _ h => h) id fun x S1 h1 v H1 g1 => ?_
  refine tE_bind (post := fun r => PostE c W Z σ H S r Q) g1.step.fr h1 (fun i S' h => ExW.later h g1.step zl) id fun y S2 h2 u H2 g2 => ?_
  obtain ⟨r, e1, h3⟩ := of_post (post := fun r => PostE c W Z σ H S r Q) h2 id
  simp only [Option.bind_eq_some_iff, Option.map_eq_some_iff] at e1
  obtain ⟨d, e2, e, e3, sv, e4, rfl⟩ := e1
  have a1 := g1.onto g2.step fun a z => z.elim .inl fun q => .inr (g2.new a q)
  rw [← hK]
  exact ⟨_, d, e, sv, pk_vw g2.step.fr a1 e2, pk_vw g2.step.fr g2.ar e3, e4, fun v' H' n => h3 v' H' (got_new fr (g1.step.trans g2.step) (fun a z => .inl (.inl z)) n)⟩
theorem sd_neg (hK : c.K = X.K) (ha : PE X a (tE c W fa)) : PE X (.UnaryOp .USub a pos) (tE c W (rNeg fa)) := by
  refine PE_imp (pe_un un_neg ha) fun σ H Q ⟨Z, S, fr, h⟩ => ?_
  refine tE_bind (post := fun r => PostE c W Z σ H S r Q) fr h (fun _ _ h => h) id fun x S1 h1 v H1 g1 => ?_
  obtain ⟨r, e1, h3⟩ := of_post (post := fun r => PostE c W Z σ H S r Q) h1 id
  simp only [Option.bind_eq_some_iff] at e1
  obtain ⟨d, e2, e3⟩ := e1
  split at e3
  · cases e3
    have w := pk_vw g1.step.fr g1.ar e2
    cases w.int
    exact ⟨_, rfl, h3 _ _ (got_new fr g1.step zl new_int)⟩
  · cases e3
/-- both sides of a comparison, then the rest -/
theorem cmp_go {o : COp} {α : Type} {post : R α → Prop} {k : Bool → FS → R α} {Z : Addr → Prop} {σ : Slots} {H : Hp} {S : FS} {Q : VK} (fr : Fr c Z σ H S) (h : post ((rCmp o fa fb S).bind k))
    (hex : ∀ i S', post (.ex i S') → ExW c W Z σ H S i S') (hno : post .no → False) (hok : ∀ r S1, post (k r S1) → ∀ H1, Step c Z σ H S σ H1 S1 → Q (.bl r) H1) :
    tOp (rC c.K o) (tE c W fa) (tE c W fb) σ H Q := by
  have h : post ((fa S).bind fun x S1 => (((fb S1).bind fun y S2 => .of ((pk S2 x).bind fun d => (pk S2 y).bind fun e => cmpD o d e) S2)).bind k) := by
    unfold rCmp at h
    cases q : fa S with
    | ok x S1 => rw [q] at h; exact h
    | ex i S1 => rw [q] at h; exact h
    | no => rw [q] at h; exact h
  refine tE_bind (post := post) fr h hex hno fun x S1 h1 v H1 g1 => ?_
  have h1 : post ((fb S1).bind fun y S2 => (R.of ((pk S2 x).bind fun d => (pk S2 y).bind fun e => cmpD o d e) S2).bind k) := by
    cases q : fb S1 with
    | ok x S1 => rw [q] at h1; exact h1
    | ex i S1 => rw [q] at h1; exact h1
    | no => rw [q] at h1; exact h1
  refine tE_bind (post := post) g1.step.fr h1 (fun i S' h => ExW.later (hex i S' h) g1.step zl) hno fun y S2 h2 u H2 g2 => ?_
  cases q : ((pk S2 x).bind fun d => (pk S2 y).bind fun e => cmpD o d e) with
  | none => rw [q] at h2; exact (hno h2).elim
  | some r =>
    rw [q] at h2
    simp only [Option.bind_eq_some_iff] at q
    obtain ⟨d, e2, e, e3, e4⟩ := q
    have a1 := g1.onto g2.step fun a z => z.elim .inl fun q => .inr (g2.new a q)
    exact ⟨_, d, e, r, pk_vw g2.step.fr a1 e2, pk_vw g2.step.fr g2.ar e3, e4, hok r S2 h2 H2 ((g1.step.trans g2.step).sub fun a z => .inl (.inl z))⟩
theorem R.bind_ok {α : Type} (r : R α) : r.bind (fun a S => .ok a S) = r := by cases r <;> rfl
theorem sd_cmpT {o : COp} (hK : c.K = X.K) (hu : X.A.units + 65 < cLine) (ha : PE X a (tE c W fa)) (hb : PE X b (tE c W fb)) (hm : behindInMarks o.py b = false) : PT X (.Compare a [o.py] [b] pos) (tT c W (rCmp o fa fb)) := by
  refine PT_imp (pt_cmpR (op_c o hu) ha hb hm) fun σ H Q ⟨Z, S, fr, h⟩ => ?_
  rw [← R.bind_ok (rCmp o fa fb S)] at h
  rw [← hK]
  exact cmp_go (post := fun r => PostT c W Z σ H S r Q) fr h (fun _ _ h => h) id fun r S1 h1 H1 st => ⟨r, rfl, h1 H1 st⟩
theorem got_bl {Z : Addr → Prop} {σ : Slots} {H H1 : Hp} {S S1 : FS} {b : Bool} (fr : Fr c Z σ H S) (x : Step c Z σ H S σ H1 S1) : Got c Z σ H S H1 S1 (.bl b) (.tmp (.val (.bl b))) := got_new fr x (fun _ h => h) (.inl ⟨rfl, .bl b⟩)
theorem sd_cmpV {o : COp} (hK : c.K = X.K) (hu : X.A.units + 65 < cLine) (ha : PE X a (tE c W fa)) (hb : PE X b (tE c W fb)) (hm : behindInMarks o.py b = false) : PE X (.Compare a [o.py] [b] pos) (tE c W (rB2V (rCmp o fa fb))) := by
  refine PE_imp (pe_cmpR (op_c o hu) ha hb hm) fun σ H Q ⟨Z, S, fr, h⟩ => ?_
  rw [← hK]
  exact cmp_go (post := fun r => PostE c W Z σ H S r Q) fr h (fun _ _ h => h) id fun r S1 h1 H1 st => h1 _ _ (got_bl fr st)
theorem sd_tru (hK : c.K = X.K) (ha : PE X a (tE c W fa)) (he : ∀ whole, isTrue a X.env whole = (do let v ← whole; standAt a.pos; holding [v] (truthy v))) : PT X a (tT c W (rTru fa)) := by
  refine PT_imp (pt_truth ha he) fun σ H Q ⟨Z, S, fr, h⟩ => ?_
  refine tE_bind (post := fun r => PostT c W Z σ H S r Q) fr h (fun _ _ h => h) id fun x S1 h1 v H1 g1 => ?_
  obtain ⟨r, e1, h3⟩ := of_post (post := fun r => PostT c W Z σ H S r Q) h1 id
  simp only [Option.bind_eq_some_iff] at e1
  obtain ⟨d, e2, e3⟩ := e1
  have w := pk_vw g1.step.fr g1.ar e2
  rw [hK] at w
  exact ⟨r, tru_v w e3, h3 _ (g1.step.sub zl)⟩
theorem sd_ix (hK : c.K = X.K) (ha : PE X a (tE c W fa)) (hb : PE X b (tE c W fb)) (hs : PlainIx b) : PE X (.Subscript a b pos) (tE c W (rIx fa fb)) := by
  refine PE_imp (pe_ix ix_d ha hb hs) fun σ H Q ⟨Z, S, fr, h⟩ => ?_
  refine tE_bind (post := fun r => PostE c W Z σ H S r Q) fr h (fun _ _ h => h) id fun x S1 h1 v H1 g1 => ?_
  refine tE_bind (post := fun r => PostE c W Z σ H S r Q) g1.step.fr h1 (fun i S' h => ExW.later h g1.step zl) id fun y S2 h2 u H2 g2 => ?_
  obtain ⟨r, e1, h3⟩ := of_post (post := fun r => PostE c W Z σ H S r Q) h2 id
  simp only [Option.bind_eq_some_iff, Option.map_eq_some_iff] at e1
  obtain ⟨d, e2, e, e3, sv, e4, rfl⟩ := e1
  have a1 := g1.onto g2.step fun a z => z.elim .inl fun q => .inr (g2.new a q)
  rw [← hK]
  exact ⟨_, d, e, sv, pk_vw g2.step.fr a1 e2, pk_vw g2.step.fr g2.ar e3, e4, fun v' r => h3 v' _ (got_new fr (g1.step.trans g2.step) (fun a z => .inl (.inl z)) (.inl ⟨rfl, r⟩))⟩
/-- behind a step -/
theorem Got.after {Z Z2 : Addr → Prop} {σ : Slots} {H H1 H2 : Hp} {S S1 S2 : FS} {v : V} {x : Arg} (f : Step c Z σ H S σ H1 S1) (g : Got c Z σ H1 S1 H2 S2 v x) : Got c Z σ H S H2 S2 v x := ⟨f.trans g.step, g.ar, fun a h => f.non (g.new a h)⟩
theorem Gots.after {Z Z2 : Addr → Prop} {σ : Slots} {H H1 H2 : Hp} {S S1 S2 : FS} {v : List V} {x : List Arg} (f : Step c Z σ H S σ H1 S1) (g : Gots c Z σ H1 S1 H2 S2 v x) : Gots c Z σ H S H2 S2 v x := ⟨f.trans g.step, g.ar, fun a h => f.non (g.new a h), g.nd⟩
theorem PostE.after {Z : Addr → Prop} {σ : Slots} {H H1 : Hp} {S S1 : FS} {r : R Arg} {Q : VK} (f : Step c Z σ H S σ H1 S1) (h : PostE c W Z σ H S r Q) : PostE c W Z σ H1 S1 r Q := by
  cases r with
  | ok x S' => exact fun v H' g => h v H' (g.after (Z2 := Z) f)
  | ex i S' => exact fun H' g => h H' (f.trans g)
  | no => exact h
theorem PostT.after {Z : Addr → Prop} {σ : Slots} {H H1 : Hp} {S S1 : FS} {r : R Bool} {Q : Bool → Hp → Prop} (f : Step c Z σ H S σ H1 S1) (h : PostT c W Z σ H S r Q) : PostT c W Z σ H1 S1 r Q := by
  cases r with
  | ok x S' => exact fun H' g => h H' (f.trans g)
  | ex i S' => exact fun H' g => h H' (f.trans g)
  | no => exact h
theorem sd_ite {t : FT} {cd : Expr} (hc : PT X cd (tT c W t)) (ha : PE X a (tE c W fa)) (hb : PE X b (tE c W fb)) : PE X (.IfExp cd a b pos) (tE c W (rIte t fa fb)) := by
  refine PE_imp (pe_ifExp hc ha hb) fun σ H Q ⟨Z, S, fr, h⟩ => ?_
  refine tT_bind (post := fun r => PostE c W Z σ H S r Q) fr h (fun _ _ h => h) id fun x S1 h1 H1 g1 => ?_
  cases x with
  | true => exact ⟨Z, S1, g1.fr, PostE.after g1 h1⟩
  | false => exact ⟨Z, S1, g1.fr, PostE.after g1 h1⟩
theorem sd_nil : PA X [] (tA c W rNil) := PA_imp pa_nil fun σ H Q ⟨Z, S, fr, h⟩ => h [] H (Gots.nil fr)
theorem sd_cons (ha : PE X e (tE c W fa)) (hs : PA X es (tA c W fs)) (hst : starEach (e :: es) X.env = (false, eval e X.env) :: starEach es X.env) : PA X (e :: es) (tA c W (rCons fa fs)) := by
  refine PA_imp (pa_cons ha hs hst) fun σ H Q ⟨Z, S, fr, h⟩ => ?_
  refine tE_bind (post := fun r => PostA c W Z σ H S r Q) fr h (fun _ _ h => h) id fun x S1 h1 v H1 g1 => ?_
  refine tA_bind (post := fun r => PostA c W Z σ H S r Q) g1.step.fr h1 (fun i S' h => ExW.later h g1.step zl) id fun xs S2 h2 vs H2 g2 => ?_
  exact h2 _ _ (Gots.cons g1 g2)
theorem tmps_val : ∀ {us vs : List V} {ds : List D} {xs : List Arg}, us.length = ds.length → tmpAs (us ++ vs) (ds.map (fun d => Arg.tmp (.val d)) ++ xs) = tmpAs vs xs
  | [], _, [], _, _ => rfl
  | u :: us, vs, d :: ds, xs, h => by
    show tmpA u (.tmp (.val d)) ++ tmpAs (us ++ vs) (ds.map (fun d => Arg.tmp (.val d)) ++ xs) = _
    rw [tmps_val (us := us) (ds := ds) (by simpa using h), tmpA_val]; rfl
  | [], _, _ :: _, _, h => by cases h
  | _ :: _, _, [], _, h => by cases h
theorem ars_val {σ : Slots} {H : Hp} {O : Addr → Prop} {vs : List V} {xs : List Arg} (r : ARs c O σ H vs xs) : ∀ {us : List V} {ds : List D}, Rps c.K H O us ds → ARs c O σ H (us ++ vs) (ds.map (fun d => Arg.tmp (.val d)) ++ xs)
  | _, _, .nil => r
  | _, _, .cons h t => .cons h (ars_val r t)
theorem ars_sub {σ : Slots} {H : Hp} {O O' : Addr → Prop} (k : ∀ a, O' a → O a) : ∀ {vs : List V} {xs : List Arg}, ARs c O σ H vs xs → ARs c O' σ H vs xs
  | _, _, .nil => .nil
  | _, _, .cons a r => .cons (a.mono (fun _ _ e _ => e) (fun a z => .inl (k a z)) fun _ _ _ e => e) (ars_sub k r)
theorem sd_star {p : Pos} (hK : c.K = X.K) (ha : PE X e (tE c W fa)) (hs : PA X es (tA c W fs)) : PA X (.Starred e p :: es) (tA c W (rStar fa fs)) := by
  refine PA_imp (StX.pa_star ha hs) fun σ H Q ⟨Z, S, fr, h⟩ => ?_
  refine tE_bind (post := fun r => PostA c W Z σ H S r Q) fr h (fun _ _ h => h) id fun x S1 h1 v H1 g1 => ?_
  cases q : (pk S1 x).bind itsD with
  | none => rw [q] at h1; exact h1.elim
  | some ds =>
    rw [q] at h1
    obtain ⟨d, e1, e2⟩ := Option.bind_eq_some_iff.mp q
    have w := pk_vw g1.step.fr g1.ar e1
    have w2 : ∃ p us, v = .ref p ∧ (SqT c.K H1 p us ∨ SqL c.K H1 p us) ∧ Rps c.K H1 (OO σ S1 (Zt Z (tmpA v x))) us ds := by
      cases d <;> first | (cases e2; done) | cases e2
      · cases w with
        | tup h r => exact ⟨_, _, rfl, .inl h.sq, r⟩
      · obtain ⟨p, us, e, h, r⟩ := w
        exact ⟨p, us, e, .inr h, r⟩
    obtain ⟨p, us, e3, e4, r⟩ := w2
    rw [← hK]
    refine ⟨p, us, e3, e4, ?_⟩
    refine tA_bind (post := fun r => PostA c W Z σ H S r Q) g1.step.fr h1 (fun i S' h => ExW.later h g1.step zl) id fun xs S2 h2 vs H2 g2 => ?_
    have et := tmps_val (vs := vs) (xs := xs) r.length
    have sub : ∀ a, OO σ S2 (Zt Z (tmpAs vs xs)) a → OO σ S2 (Zt (Zt Z (tmpA v x)) (tmpAs vs xs)) a := fun a z => z.elim .inl fun z => .inr (z.elim (fun q => .inl (.inl q)) .inr)
    have r2 : Rps c.K H2 (OO σ S2 (Zt (Zt Z (tmpA v x)) (tmpAs vs xs))) us ds := g2.step.rps (fun a z => z.elim .inl fun q => .inr (g2.new a q)) r
    refine h2 _ _ ⟨?_, ?_, ?_, ?_⟩
    · rw [et]
      exact ⟨(g2.step.sub fun a z => z.elim (fun q => .inl (.inl q)) .inr).fr, ((g1.step.sub (Z := Z) (fun a z => .inl z)).trans (g2.step.sub (Z := Z) fun a z => .inl (.inl z))).keep, ((g1.step.sub (Z := Z) (fun a z => .inl z)).trans (g2.step.sub (Z := Z) fun a z => .inl (.inl z))).ow, ((g1.step.sub (Z := Z) (fun a z => .inl z)).trans (g2.step.sub (Z := Z) fun a z => .inl (.inl z))).tr⟩
    · rw [et]
      exact ars_sub sub (ars_val g2.ar r2)
    · rw [et]
      exact fun a h => g1.step.non (g2.new a h)
    · rw [et]; exact g2.nd
/-- all taken -/
theorem Gots.taken {Z : Addr → Prop} {σ : Slots} {H H1 : Hp} {S S1 : FS} {vs : List V} {xs : List Arg} {ds : List D} {S2 : FS} (fr : Fr c Z σ H S) (g : Gots c Z σ H S H1 S1 vs xs) (h : tks xs S1 = some (ds, S2)) : Step c Z σ H S σ H1 S2 ∧ Rps c.K H1 (OO σ S2 Z) vs ds := by
  obtain ⟨x, r, _⟩ := tks_step fr g.step g.ar g.new (fun _ h => h) h
  exact ⟨x.sub zl, r⟩
theorem Got.taken {Z : Addr → Prop} {σ : Slots} {H H1 : Hp} {S S1 : FS} {v : V} {x : Arg} {d : D} {S2 : FS} (fr : Fr c Z σ H S) (g : Got c Z σ H S H1 S1 v x) (h : tk S1 x = some (d, S2)) : Step c Z σ H S σ H1 S2 ∧ Rp c.K H1 (OO σ S2 Z) v d := by
  obtain ⟨y, r⟩ := tk_step fr g.step g.ar g.new (fun _ h => h) h
  exact ⟨y.sub zl, r⟩
theorem disp_go {k : List D → Sv} {Z : Addr → Prop} {σ : Slots} {H : Hp} {S : FS} {Q : VK} (fr : Fr c Z σ H S)
    (h : PostE c W Z σ H S (rDisp k fs S) Q) :
    tA c W fs σ H (fun vs H1 => ∃ ds S2, Step c Z σ H S σ H1 S2 ∧ Rps c.K H1 (OO σ S2 Z) vs ds ∧ ds.length ≤ lineN ∧ ∀ v H', Got c Z σ H S H' S2 v (.tmp (k ds)) → Q v H') := by
  refine tA_bind (post := fun r => PostE c W Z σ H S r Q) fr h (fun _ _ h => h) id fun xs S1 h1 vs H1 g1 => ?_
  cases q : tks xs S1 with
  | none => rw [q] at h1; exact h1.elim
  | some p =>
    obtain ⟨ds, S2⟩ := p
    rw [q] at h1
    obtain ⟨st, r⟩ := g1.taken fr q
    have h1 : PostE c W Z σ H S (if ds.length ≤ lineN then .ok (.tmp (k ds)) S2 else .no) Q := h1
    by_cases hz : ds.length ≤ lineN
    · rw [if_pos hz] at h1
      exact ⟨ds, S2, st, r, hz, h1⟩
    · rw [if_neg hz] at h1; exact h1.elim
theorem tA_mono {Q Q' : List V → Hp → Prop} {σ : Slots} {H : Hp} (h : tA c W fs σ H Q) (i : ∀ vs H', Q vs H' → Q' vs H') : tA c W fs σ H Q' := by
  obtain ⟨Z, S, fr, h⟩ := h
  refine ⟨Z, S, fr, ?_⟩
  cases q : fs S with
  | ok x S1 => rw [q] at h; exact fun vs H' g => i _ _ (h vs H' g)
  | ex k S1 => rw [q] at h; exact h
  | no => rw [q] at h; exact h
theorem sd_tup {x1 : Nat} (hs : PA X es (tA c W fs)) : PE X (.Tuple es x1 pos) (tE c W (rTup fs)) := by
  refine PE_imp (pe_tup hs) fun σ H Q ⟨Z, S, fr, h⟩ => ?_
  refine tA_mono (disp_go (k := fun ds => .val (.tup ds)) fr h) fun vs H1 ⟨ds, S2, st, r, hz, q⟩ => ⟨by rw [r.length, ← lineN_eq]; exact hz, fun p hp => ?_⟩
  exact q _ _ (got_new fr st (fun _ h => h) (.inr ⟨p, vs, ds, rfl, hp, rfl, rfl, r⟩))
theorem sd_lst (hs : PA X es (tA c W fs)) : PE X (.List es pos) (tE c W (rLst fs)) := by
  refine PE_imp (pe_lst hs) fun σ H Q ⟨Z, S, fr, h⟩ => ?_
  refine tA_mono (disp_go (k := fun ds => .own ds) fr h) fun vs H1 ⟨ds, S2, st, r, hz, q⟩ => ⟨by rw [r.length, ← lineN_eq]; exact hz, fun p hp => ?_⟩
  exact q _ _ (got_new fr st (fun _ h => h) ⟨p, vs, hp, rfl, rfl, r⟩)
end
end FL

set_option maxRecDepth 100000
set_option maxHeartbeats 4000000
/-! Tests, chains, slices, built-in functions, methods of lists. -/
namespace FL
open PySem PySem.Spec PyProof.Rows L2

/-! ### tests and what else hands on no object -/
def PostP {α : Type} (c : FCx) (W : WX) (Z : Addr → Prop) (σ : Slots) (H : Hp) (S : FS) (r : R α) (Q : α → Hp → Prop) : Prop := match r with
  | .ok b S' => ∀ H', Step c Z σ H S σ H' S' → Q b H'
  | .ex k S' => ∀ H', Step c Z σ H S σ H' S' → W (.ref (c.cls k)) none σ H'
  | .no => False
abbrev FO := FS → R (Option Int)
def tO (c : FCx) (W : WX) (f : FO) : TO := fun σ H Q => ∃ Z S, Fr c Z σ H S ∧ PostP c W Z σ H S (f S) Q
def rChn (o p : COp) (fa fb fc : FE) : FT := fun S => (fa S).bind fun x S1 => (fb S1).bind fun y S2 => (R.of ((pk S2 x).bind fun d => (pk S2 y).bind fun e => cmpD o d e) S2).bind fun k _ =>
  if k = true then (fc S2).bind fun z S3 => .of ((pk S3 y).bind fun d => (pk S3 z).bind fun e => cmpD p d e) S3 else .ok false S2
def rNot (f : FT) : FT := fun S => (f S).bind fun b S1 => .ok (!b) S1
def rAnd (f g : FT) : FT := fun S => (f S).bind fun b S1 => if b = true then g S1 else .ok false S1
def rOr (f g : FT) : FT := fun S => (f S).bind fun b S1 => if b = true then .ok true S1 else g S1
/-- .. as values, by truth -/
def rAndV (fa fb : FE) : FE := fun S => (fa S).bind fun x S1 => (R.of ((pk S1 x).bind truD) S1).bind fun k _ => if k = true then fb S1 else .ok x S1
def rOrV (fa fb : FE) : FE := fun S => (fa S).bind fun x S1 => (R.of ((pk S1 x).bind truD) S1).bind fun k _ => if k = true then .ok x S1 else fb S1
def rNotV (fa : FE) : FE := fun S => (fa S).bind fun x S1 => (R.of ((pk S1 x).bind truD) S1).bind fun k _ => .ok (.tmp (.val (.bl (!k)))) S1
def rONone : FO := fun S => .ok none S
def rOSome (fa : FE) : FO := fun S => (fa S).bind fun x S1 => .of ((pk S1 x).bind fun d => match d with | .int i => some (some i) | _ => none) S1
def rSl (fa : FE) (fl fh : FO) : FE := fun S => (fa S).bind fun x S1 => (fl S1).bind fun l S2 => (fh S2).bind fun u S3 => .of ((pk S3 x).bind fun d => (slD d l u).map Arg.tmp) S3

theorem PW_imp {X : Cx} {e : Expr} {t t' : TT} (h : PW X e t) (i : ∀ σ H Q, t' σ H Q → t σ H Q) : PW X e t' := ⟨fun wh pins s σ H Q I q => h.run wh pins s σ H Q I (i σ H Q q)⟩
theorem PO_imp {X : Cx} {e : Option Expr} {t t' : TO} (h : PO X e t) (i : ∀ σ H Q, t' σ H Q → t σ H Q) : PO X e t' := ⟨fun pins s σ H Q I q => h.run pins s σ H Q I (i σ H Q q)⟩

section
variable {X : Cx} {c : FCx} {W : WX} {a b d e : Expr} {es rest : List Expr} {fa fb fc : FE} {f g : FT} {fs : FA} {fl fh : FO} {pos p2 : Pos}
theorem chn_go {o p : COp} {α : Type} {post : R α → Prop} {k : Bool → FS → R α} {Z : Addr → Prop} {σ : Slots} {H : Hp} {S : FS} {Q : VK} (fr : Fr c Z σ H S) (h : post ((rChn o p fa fb fc S).bind k))
    (hex : ∀ i S', post (.ex i S') → ExW c W Z σ H S i S') (hno : post .no → False) (hok : ∀ r S1, post (k r S1) → ∀ H1, Step c Z σ H S σ H1 S1 → Q (.bl r) H1) :
    tChain (rC c.K o) (rC c.K p) (tE c W fa) (tE c W fb) (tE c W fc) σ H Q := by
  have h : post ((fa S).bind fun x S1 => ((fb S1).bind fun y S2 => (R.of ((pk S2 x).bind fun d => (pk S2 y).bind fun e => cmpD o d e) S2).bind fun k' _ =>
      if k' = true then (fc S2).bind fun z S3 => (R.of ((pk S3 y).bind fun d => (pk S3 z).bind fun e => cmpD p d e) S3) else .ok false S2).bind k) := by
    unfold rChn at h
    cases q : fa S <;> (rw [q] at h; exact h)
  refine tE_bind (post := post) fr h hex hno fun x S1 h1 v H1 g1 => ?_
  have h1 : post ((fb S1).bind fun y S2 => ((R.of ((pk S2 x).bind fun d => (pk S2 y).bind fun e => cmpD o d e) S2).bind fun k' _ =>
      if k' = true then (fc S2).bind fun z S3 => (R.of ((pk S3 y).bind fun d => (pk S3 z).bind fun e => cmpD p d e) S3) else .ok false S2).bind k) := by
    cases q : fb S1 <;> (rw [q] at h1; exact h1)
  refine tE_bind (post := post) g1.step.fr h1 (fun i S' h => ExW.later (hex i S' h) g1.step zl) hno fun y S2 h2 u H2 g2 => ?_
  cases q : ((pk S2 x).bind fun d => (pk S2 y).bind fun e => cmpD o d e) with
  | none => rw [q] at h2; exact (hno h2).elim
  | some r =>
    rw [q] at h2
    have h2 : post ((if r = true then (fc S2).bind fun z S3 => (R.of ((pk S3 y).bind fun d => (pk S3 z).bind fun e => cmpD p d e) S3) else .ok false S2).bind k) := h2
    simp only [Option.bind_eq_some_iff] at q
    obtain ⟨d, e2, e, e3, e4⟩ := q
    have a1 := g1.onto g2.step fun a z => z.elim .inl fun q => .inr (g2.new a q)
    have st2 := g1.step.trans g2.step
    refine ⟨_, d, e, r, pk_vw g2.step.fr a1 e2, pk_vw g2.step.fr g2.ar e3, e4, r, rfl, ?_⟩
    cases r with
    | false =>
      rw [if_neg Bool.false_ne_true] at h2 ⊢
      exact hok false S2 h2 H2 (st2.sub fun a z => .inl (.inl z))
    | true =>
      rw [if_pos rfl] at h2 ⊢
      have h2 : post ((fc S2).bind fun z S3 => (R.of ((pk S3 y).bind fun d => (pk S3 z).bind fun e => cmpD p d e) S3).bind k) := by
        cases q : fc S2 <;> (rw [q] at h2; exact h2)
      refine tE_bind (post := post) g2.step.fr h2 (fun i S' h => ExW.later (hex i S' h) st2 (fun a z => .inl (.inl z))) hno fun z S3 h3 w H3 g3 => ?_
      cases q : ((pk S3 y).bind fun d => (pk S3 z).bind fun e => cmpD p d e) with
      | none => rw [q] at h3; exact (hno h3).elim
      | some r =>
        rw [q] at h3
        simp only [Option.bind_eq_some_iff] at q
        obtain ⟨d, e2, e, e3, e4⟩ := q
        have a2 := g2.onto g3.step fun a z => z.elim .inl fun q => .inr (g3.new a q)
        exact ⟨_, d, e, r, pk_vw g3.step.fr a2 e2, pk_vw g3.step.fr g3.ar e3, e4, hok r S3 h3 H3 ((st2.trans g3.step).sub fun a z => .inl (.inl (.inl z)))⟩
theorem sd_chnT {o p : COp} (hK : c.K = X.K) (hu : X.A.units + 65 < cLine) (ha : PE X a (tE c W fa)) (hb : PE X b (tE c W fb)) (hd : PE X d (tE c W fc)) (hm : lastMarks [o.py, p.py] [b, d] = false) :
    PT X (.Compare a [o.py, p.py] [b, d] pos) (tT c W (rChn o p fa fb fc)) := by
  refine PT_imp (pt_chain (op_c o hu) (op_c p hu) ha hb hd hm) fun σ H Q ⟨Z, S, fr, h⟩ => ?_
  rw [← R.bind_ok (rChn o p fa fb fc S)] at h
  rw [← hK]
  exact chn_go (post := fun r => PostT c W Z σ H S r Q) fr h (fun _ _ h => h) id fun r S1 h1 H1 st => ⟨r, rfl, h1 H1 st⟩
theorem sd_chnV {o p : COp} (hK : c.K = X.K) (hu : X.A.units + 65 < cLine) (ha : PE X a (tE c W fa)) (hb : PE X b (tE c W fb)) (hd : PE X d (tE c W fc)) (hm : lastMarks [o.py, p.py] [b, d] = false) :
    PE X (.Compare a [o.py, p.py] [b, d] pos) (tE c W (rB2V (rChn o p fa fb fc))) := by
  refine PE_imp (pe_chain (op_c o hu) (op_c p hu) ha hb hd hm) fun σ H Q ⟨Z, S, fr, h⟩ => ?_
  rw [← hK]
  exact chn_go (post := fun r => PostE c W Z σ H S r Q) fr h (fun _ _ h => h) id fun r S1 h1 H1 st => h1 _ _ (got_bl fr st)
theorem sd_not (ha : PT X a (tT c W f)) : PT X (.UnaryOp .Not a pos) (tT c W (rNot f)) := by
  refine PT_imp (pt_not ha) fun σ H Q ⟨Z, S, fr, h⟩ => ?_
  exact tT_bind (post := fun r => PostT c W Z σ H S r Q) fr h (fun _ _ h => h) id fun x S1 h1 H1 st => h1 H1 st
theorem sd_and1 {o : BoolOp} (ha : PT X a (tT c W f)) : PW X (.BoolOp o [a] pos) (tT c W f) := by
  cases o
  · exact pw_and1 ha
  · exact pw_or1 ha
theorem sd_and (ha : PT X a (tT c W f)) (hb : PW X (.BoolOp .And (b :: rest) pos) (tT c W g)) : PW X (.BoolOp .And (a :: b :: rest) pos) (tT c W (rAnd f g)) := by
  refine PW_imp (pw_and ha hb) fun σ H Q ⟨Z, S, fr, h⟩ => ?_
  refine tT_bind (post := fun r => PostT c W Z σ H S r Q) fr h (fun _ _ h => h) id fun x S1 h1 H1 st => ?_
  cases x with
  | true => exact ⟨Z, S1, st.fr, PostT.after st h1⟩
  | false => exact h1 H1 st
theorem sd_or (ha : PT X a (tT c W f)) (hb : PW X (.BoolOp .Or (b :: rest) pos) (tT c W g)) : PW X (.BoolOp .Or (a :: b :: rest) pos) (tT c W (rOr f g)) := by
  refine PW_imp (pw_or ha hb) fun σ H Q ⟨Z, S, fr, h⟩ => ?_
  refine tT_bind (post := fun r => PostT c W Z σ H S r Q) fr h (fun _ _ h => h) id fun x S1 h1 H1 st => ?_
  cases x with
  | false => exact ⟨Z, S1, st.fr, PostT.after st h1⟩
  | true => exact h1 H1 st
theorem sd_oneV {o : BoolOp} (ha : PE X a (tE c W fa)) : PE X (.BoolOp o [a] pos) (tE c W fa) := pe_one ha
theorem sd_andV (hK : c.K = X.K) (ha : PE X a (tE c W fa)) (hb : PE X (.BoolOp .And (b :: rest) pos) (tE c W fb)) : PE X (.BoolOp .And (a :: b :: rest) pos) (tE c W (rAndV fa fb)) := by
  refine PE_imp (pe_andT ha hb) fun σ H Q ⟨Z, S, fr, h⟩ => ?_
  refine tE_bind (post := fun r => PostE c W Z σ H S r Q) fr h (fun _ _ h => h) id fun x S1 h1 v H1 g1 => ?_
  cases q : (pk S1 x).bind truD with
  | none => rw [q] at h1; exact h1.elim
  | some r =>
    rw [q] at h1
    simp only [Option.bind_eq_some_iff] at q
    obtain ⟨d, e2, e3⟩ := q
    have w := pk_vw g1.step.fr g1.ar e2
    rw [hK] at w
    refine ⟨r, tru_v w e3, ?_⟩
    cases r with
    | true => exact ⟨Z, S1, g1.step.fr.sub zl, PostE.after (g1.step.sub zl) h1⟩
    | false => exact h1 v H1 g1
theorem sd_orV (hK : c.K = X.K) (ha : PE X a (tE c W fa)) (hb : PE X (.BoolOp .Or (b :: rest) pos) (tE c W fb)) : PE X (.BoolOp .Or (a :: b :: rest) pos) (tE c W (rOrV fa fb)) := by
  refine PE_imp (pe_orT ha hb) fun σ H Q ⟨Z, S, fr, h⟩ => ?_
  refine tE_bind (post := fun r => PostE c W Z σ H S r Q) fr h (fun _ _ h => h) id fun x S1 h1 v H1 g1 => ?_
  cases q : (pk S1 x).bind truD with
  | none => rw [q] at h1; exact h1.elim
  | some r =>
    rw [q] at h1
    simp only [Option.bind_eq_some_iff] at q
    obtain ⟨d, e2, e3⟩ := q
    have w := pk_vw g1.step.fr g1.ar e2
    rw [hK] at w
    refine ⟨r, tru_v w e3, ?_⟩
    cases r with
    | false => exact ⟨Z, S1, g1.step.fr.sub zl, PostE.after (g1.step.sub zl) h1⟩
    | true => exact h1 v H1 g1
theorem sd_notV (hK : c.K = X.K) (ha : PE X a (tE c W fa)) : PE X (.UnaryOp .Not a pos) (tE c W (rNotV fa)) := by
  refine PE_imp (pe_notT ha) fun σ H Q ⟨Z, S, fr, h⟩ => ?_
  refine tE_bind (post := fun r => PostE c W Z σ H S r Q) fr h (fun _ _ h => h) id fun x S1 h1 v H1 g1 => ?_
  cases q : (pk S1 x).bind truD with
  | none => rw [q] at h1; exact h1.elim
  | some r =>
    rw [q] at h1
    simp only [Option.bind_eq_some_iff] at q
    obtain ⟨d, e2, e3⟩ := q
    have w := pk_vw g1.step.fr g1.ar e2
    rw [hK] at w
    exact ⟨r, tru_v w e3, h1 _ _ (got_bl fr (g1.step.sub zl))⟩
theorem sd_oNone : PO X none (tO c W rONone) := PO_imp po_none fun σ H Q ⟨Z, S, fr, h⟩ => h H fr.step
theorem sd_oSome (ha : PE X a (tE c W fa)) : PO X (some a) (tO c W (rOSome fa)) := by
  refine PO_imp (po_some ha) fun σ H Q ⟨Z, S, fr, h⟩ => ?_
  refine tE_bind (post := fun r => PostP c W Z σ H S r Q) fr h (fun _ _ h => h) id fun x S1 h1 v H1 g1 => ?_
  obtain ⟨r, e1, h3⟩ := of_post (post := fun r => PostP c W Z σ H S r Q) h1 id
  simp only [Option.bind_eq_some_iff] at e1
  obtain ⟨d, e2, e3⟩ := e1
  split at e3
  · cases e3
    have w := pk_vw g1.step.fr g1.ar e2
    cases w.int
    exact ⟨_, rfl, h3 _ (g1.step.sub zl)⟩
  · cases e3
theorem tO_bind {α : Type} {Z : Addr → Prop} {σ : Slots} {H : Hp} {S : FS} {f : FO} {k : Option Int → FS → R α} {post : R α → Prop} {Q1 : Option Int → Hp → Prop} (fr : Fr c Z σ H S) (h : post ((f S).bind k)) (hex : ∀ i S', post (.ex i S') → ExW c W Z σ H S i S') (hno : post .no → False)
    (hok : ∀ x S1, post (k x S1) → ∀ H1, Step c Z σ H S σ H1 S1 → Q1 x H1) : tO c W f σ H Q1 := by
  refine ⟨Z, S, fr, ?_⟩
  cases q : f S with
  | ok x S1 => rw [q] at h; exact hok x S1 h
  | ex i S1 => rw [q] at h; exact hex i S1 h
  | no => rw [q] at h; exact hno h
theorem sd_sl {lo hi : Option Expr} (hK : c.K = X.K) (ha : PE X a (tE c W fa)) (hl : PO X lo (tO c W fl)) (hh : PO X hi (tO c W fh)) : PE X (.Subscript a (.Slice lo hi none p2) pos) (tE c W (rSl fa fl fh)) := by
  refine PE_imp (pe_slice sl_d ha hl hh) fun σ H Q ⟨Z, S, fr, h⟩ => ?_
  refine tE_bind (post := fun r => PostE c W Z σ H S r Q) fr h (fun _ _ h => h) id fun x S1 h1 v H1 g1 => ?_
  refine tO_bind (post := fun r => PostE c W Z σ H S r Q) g1.step.fr h1 (fun i S' h => ExW.later h g1.step zl) id fun l S2 h2 H2 st2 => ?_
  have s12 := g1.step.trans st2
  refine tO_bind (post := fun r => PostE c W Z σ H S r Q) st2.fr h2 (fun i S' h => ExW.later h s12 zl) id fun u S3 h3 H3 st3 => ?_
  obtain ⟨r, e1, h4⟩ := of_post (post := fun r => PostE c W Z σ H S r Q) h3 id
  simp only [Option.bind_eq_some_iff, Option.map_eq_some_iff] at e1
  obtain ⟨d, e2, sv, e4, rfl⟩ := e1
  have a1 := g1.onto (st2.trans st3) fun a z => .inl z
  rw [← hK]
  exact ⟨_, d, sv, pk_vw st3.fr a1 e2, e4, fun v' H' n => h4 v' H' (got_new fr (s12.trans st3) zl n)⟩
end

/-! ### isinstance -/
inductive Ty where
  | int | bool | str | tup | lst
def Ty.py : Ty → String
  | .int => "int" | .bool => "bool" | .str => "str" | .tup => "tuple" | .lst => "list"
def isiD : D → Ty → Bool
  | .int _, .int => true
  | .bl _, .int => true
  | .bl _, .bool => true
  | .str _, .str => true
  | .tup _, .tup => true
  | .lst _, .lst => true
  | _, _ => false
def tyD : D → String
  | .non => "NoneType" | .bl _ => "bool" | .int _ => "int" | .str _ => "str" | .tup _ => "tuple" | .lst _ => "list" | .dic _ => "dict" | .exc _ => "dict"
theorem isi_kit (d : D) (t : Ty) : kitB (tyD d) t.py = some (isiD d t) := by
  cases d <;> cases t <;> (dsimp only [tyD, Ty.py, isiD]; decide +kernel)
theorem isi_kits {K : PySem.W.Frag} (d : D) : ∀ ts : List Ty, PySem.W.kitAny K (.type (tyD d)) (ts.map fun t => Value.type t.py) = some (ts.any (isiD d))
  | [] => kitAny_nil
  | t :: ts => by
    refine kitAny_cons (b := isiD d t) (kit_ty (isi_kit d t)) (fun h => ?_) (fun h => ?_)
    · rw [isi_kits d ts, List.any_cons, h]; rfl
    · rw [List.any_cons, h]; rfl
theorem sq_ty {K : PySem.W.Frag} {H : Hp} {O : Addr → Prop} {x : V} {d : D} (h : Vw K H O x d) (hx : ∀ k, d ≠ .exc k) : TyX K H x (.type (tyD d)) := by
  cases d with
  | non => cases h.non; exact .base .non
  | bl b => cases h.bl; exact .base (.bl b)
  | int b => cases h.int; exact .base (.int b)
  | str b => cases h.str; exact .base (.str b)
  | tup ds =>
    obtain ⟨a, xs, rfl, h, _⟩ := h.tup
    rcases h with (h | ⟨o, h⟩) | ⟨o, its, n, h1, h2, _⟩
    · exact .base (.tup h)
    · exact .fTuple h
    · exact .kTuple h1 h2
  | lst ds =>
    obtain ⟨a, xs, rfl, h, _⟩ := h.lst
    rcases h with (h | ⟨o, h⟩) | ⟨o, its, n, h1, h2, _⟩
    · exact .base (.lst h)
    · exact .base (.frz h)
    · exact .kList h1 h2
  | dic kvs =>
    obtain ⟨a, rfl, ⟨o, h⟩, _⟩ := h.dic
    exact .fDict h
  | exc k => exact (hx k rfl).elim
/-- a value's class -/
def tyV (K : PySem.W.Frag) : D → Value
  | .exc k => .ref (exC K k)
  | d => .type (tyD d)
section
variable {K : PySem.W.Frag} {H : Hp} {O : Addr → Prop} {x : V} {d : D}
theorem isi_v (w : Vw K H O x d) (t : Ty) : PySem.W.kitOne K (tyV K d) (.type t.py) = some (isiD d t) := by
  cases d with
  | exc k =>
    obtain ⟨a, _, ⟨oe, vs, _, _, _, _, xf⟩, _⟩ := w.exc
    have e : isiD (.exc k) t = false := by cases t <;> rfl
    rw [e]
    exact xf.no _ (by cases t <;> simp [Ty.py])
  | _ => exact kit_ty (isi_kit _ t)
theorem isis_v (w : Vw K H O x d) : ∀ ts : List Ty, PySem.W.kitAny K (tyV K d) (ts.map fun t => Value.type t.py) = some (ts.any (isiD d))
  | [] => kitAny_nil
  | t :: ts => by
    refine kitAny_cons (b := isiD d t) (isi_v w t) (fun h => ?_) (fun h => ?_)
    · rw [isis_v w ts, List.any_cons, h]; rfl
    · rw [List.any_cons, h]; rfl
end
section
variable {X : Cx} {pins : List (Addr × Obj)} {σ : Slots} {H : Hp} {s : Shared} {O : Addr → Prop} {x : V} {u : Value} {d : D}
theorem kit_d (I : Inv X pins σ H s) (rx : RelV x u) (w : Vw X.K H O x d) : ∃ P : Heap → Prop, PySem.W.KitX X.K u (tyV X.K d) P ∧ P s.heap ∧ u ≠ .builtin "__main__.__loader__#opaque" := by
  cases d with
  | exc k =>
    obtain ⟨a, rfl, ⟨oe, vs, ea, hz, hv, _, xf⟩, _⟩ := w.exc
    cases (show u = Value.ref a from rx)
    obtain ⟨hget, _, _⟩ := I.hok a _ ea
    have C := xf.cc
    have J : PySem.W.InstAt s.heap a oe (exC X.K k) none := by
      obtain ⟨oc, od, oda, osl⟩ := oe
      obtain ⟨h1, h2⟩ := hz
      dsimp only at h1 h2 hv
      subst h1 h2 hv
      exact ⟨hget, rfl, rfl, trivial⟩
    exact ⟨_, PySem.W.handS_kitx_exc C.hg C.hk C.hs C.hd C.ha C.hn C.ht C.hm, J, fun z => nomatch z⟩
  | _ => exact kit_of I rx (sq_ty w fun _ z => nomatch z)
end
/-- isinstance(x, c) -/
def rIsiD (K : PySem.W.Frag) : List V → Hp → VK → Prop := fun xs H Q => ∃ (O : Addr → Prop) (d : D) (x c : V) (u : Value) (b : Bool), xs = [x, c] ∧ ClsV c u ∧ Vw K H O x d ∧ PySem.W.kitOne K (tyV K d) u = some b ∧ Q (.bl b) H
def rIsiTD (K : PySem.W.Frag) : List V → Hp → VK → Prop := fun xs H Q => ∃ (O : Addr → Prop) (d : D) (x : V) (tp : Addr) (cs : List V) (us : List Value) (b : Bool), xs = [x, .ref tp] ∧ H tp = some (.tup cs) ∧ Paired ClsV cs us ∧ Vw K H O x d ∧ PySem.W.kitAny K (tyV K d) us = some b ∧ Q (.bl b) H
theorem call_isiD {X : Cx} : CallR X (.builtin "isinstance") (rIsiD X.K) := by
  intro pins s σ H xs us Q I r h
  obtain ⟨O, d, x, c, u, b, rfl, k, w, e, q⟩ := h
  obtain ⟨u1, u2, rfl, r1, r2⟩ := vals2 r
  have e2 := k.eq r2
  subst e2
  obtain ⟨P, Z, p, hx⟩ := kit_d I r1 w
  exact PySem.W.kia_one Z I.kIn p e hx fun tk => ⟨.bl b, H, I.tok tk, rfl, q⟩
theorem call_isiTD {X : Cx} : CallR X (.builtin "isinstance") (rIsiTD X.K) := by
  intro pins s σ H xs us Q I r h
  obtain ⟨O, d, x, tp, cs, ws, b, rfl, hT, k, w, e, q⟩ := h
  obtain ⟨u1, u2, rfl, r1, r2⟩ := vals2 r
  cases (show u2 = Value.ref tp from r2)
  obtain ⟨P, Z, p, hx⟩ := kit_d I r1 w
  obtain ⟨_, its, rv, o, h1, h2, n, h3⟩ := (show ObjOk X.prog X.w H s.heap tp (.tup cs) from I.hok tp _ hT)
  have e3 := ClsV.all k rv
  subst e3
  obtain ⟨oc, od, dt, sl⟩ := o
  simp only at h2 h3
  subst h2 h3
  exact PySem.W.kia_tup Z I.kIn p h1 e hx fun tk => ⟨.bl b, H, I.tok tk, rfl, q⟩
end FL

set_option maxRecDepth 100000
set_option maxHeartbeats 4000000
/-! Built-in functions, methods of lists. -/
namespace FL
open PySem PySem.Spec PyProof.Rows L2

/-! ### arguments -/
def NS (e : Expr) : Prop := ∀ v p, e ≠ .Starred v p
theorem star_cons {e : Expr} {es : List Expr} {env : Env} (h : NS e) : starEach (e :: es) env = (false, eval e env) :: starEach es env := by
  cases e <;> first | rfl | exact absurd rfl (h _ _)
theorem star_none {pos : Pos} {env : Env} : ∀ {es : List Expr}, (∀ e ∈ es, NS e) → (backTo pos (starEach es env)).any (·.1) = false
  | [], _ => rfl
  | e :: es, h => by
    rw [star_cons (h e List.mem_cons_self)]
    have ih := star_none (pos := pos) (env := env) (es := es) fun x hx => h x (List.mem_cons_of_mem _ hx)
    unfold backTo at ih ⊢
    rw [List.map_cons, List.any_cons, ih]
    rfl

inductive Blt where
  | len | min2 | max2 | sum | minL | maxL | list | tuple | int | str | abs | all | any | repr | sorted
/-! sorting -/
def leD (d e : D) : Bool := !(PySem.W.dataLt (toPy e) (toPy d))
def alikeD (ds : List D) : Bool := ds.all fun d => ds.all fun e => PySem.W.alike (toPy d) (toPy e)
def tup1 : D → Bool
  | .tup (_ :: _) => true
  | _ => false
def notT : D → Bool
  | .non => false
  | .tup _ => false
  | _ => true
def sortD (ds : List D) : List D := ds.mergeSort leD
def sortOk (ds : List D) : Prop := alikeD ds = true ∧ (ds.all tup1 = true ∨ ds.all notT = true) ∧ (ds.all fun d => decide ((toPy d).depth ≤ 64)) = true
instance (ds : List D) : Decidable (sortOk ds) := by unfold sortOk; infer_instance
def intsOf : List D → Option (List Int)
  | [] => some []
  | .int i :: ds => (intsOf ds).map (i :: ·)
  | _ => none
def blsOf : List D → Option (List Bool)
  | [] => some []
  | .bl i :: ds => (blsOf ds).map (i :: ·)
  | _ => none
theorem intsOf_map : ∀ {ds : List D} {ns : List Int}, intsOf ds = some ns → ds = ns.map D.int
  | [], _, h => by cases h; rfl
  | .int i :: ds, ns, h => by
    simp only [intsOf, Option.map_eq_some_iff] at h
    obtain ⟨ms, h1, rfl⟩ := h
    rw [intsOf_map h1]; rfl
  | .non :: _, _, h => nomatch h
  | .bl _ :: _, _, h => nomatch h
  | .str _ :: _, _, h => nomatch h
  | .tup _ :: _, _, h => nomatch h
  | .lst _ :: _, _, h => nomatch h
theorem blsOf_map : ∀ {ds : List D} {ns : List Bool}, blsOf ds = some ns → ds = ns.map D.bl
  | [], _, h => by cases h; rfl
  | .bl i :: ds, ns, h => by
    simp only [blsOf, Option.map_eq_some_iff] at h
    obtain ⟨ms, h1, rfl⟩ := h
    rw [blsOf_map h1]; rfl
  | .non :: _, _, h => nomatch h
  | .int _ :: _, _, h => nomatch h
  | .str _ :: _, _, h => nomatch h
  | .tup _ :: _, _, h => nomatch h
  | .lst _ :: _, _, h => nomatch h
theorem intsOf_ints : ∀ ns : List Int, intsOf (ns.map D.int) = some ns
  | [] => rfl
  | n :: ns => by simp only [List.map_cons, intsOf, intsOf_ints ns, Option.map_some]
theorem blsOf_bls : ∀ ns : List Bool, blsOf (ns.map D.bl) = some ns
  | [] => rfl
  | n :: ns => by simp only [List.map_cons, blsOf, blsOf_bls ns, Option.map_some]
def maxI : List Int → Option Int
  | [] => none
  | n :: ns => some (ns.foldl max n)
def minI : List Int → Option Int
  | [] => none
  | n :: ns => some (ns.foldl min n)
def bltD : Blt → List D → Option Sv
  | .len, [.str x] => if x.length ≤ lineN then some (.val (.int x.length)) else none
  | .len, [.lst ds] => some (.val (.int ds.length))
  | .len, [.tup ds] => some (.val (.int ds.length))
  | .min2, [.int i, .int j] => some (.val (.int (min i j)))
  | .max2, [.int i, .int j] => some (.val (.int (max i j)))
  | .sum, [.lst ds] => (intsOf ds).map fun ns => .val (.int ns.sum)
  | .minL, [.lst ds] => (intsOf ds).bind fun ns => (minI ns).map fun m => .val (.int m)
  | .maxL, [.lst ds] => (intsOf ds).bind fun ns => (maxI ns).map fun m => .val (.int m)
  | .list, [.lst ds] => some (.own ds)
  | .list, [.tup ds] => some (.own ds)
  | .tuple, [.lst ds] => some (.val (.tup ds))
  | .tuple, [.tup ds] => some (.val (.tup ds))
  | .int, [.int i] => some (.val (.int i))
  | .int, [.bl b] => some (.val (.int (if b then 1 else 0)))
  | .str, [.int i] => if i.natAbs.log2 < 1920 then some (.val (.str (toString i))) else none
  | .abs, [.int i] => some (.val (.int (if i < 0 then -i else i)))
  | .all, [.lst ds] => (blsOf ds).map fun ns => .val (.bl (ns.all id))
  | .any, [.lst ds] => (blsOf ds).map fun ns => .val (.bl (ns.any id))
  | .repr, [d] => if (toPy d).showable = true ∧ nd d = true ∧ (toPy d).depth ≤ 64 ∧ (toPy d).shown.length ≤ lineN then some (.val (.str (toPy d).shown)) else none
  | .sorted, [.lst ds] => if sortOk ds then some (.own (sortD ds)) else none
  | _, _ => none
def Blt.nm : Blt → String
  | .len => "len" | .min2 => "min" | .max2 => "max" | .sum => "sum" | .minL => "min" | .maxL => "max" | .list => "list" | .tuple => "tuple" | .int => "int" | .str => "str" | .abs => "abs" | .all => "all" | .any => "any" | .repr => "repr" | .sorted => "sorted"
def Blt.va : Blt → Value
  | .list => .type "list" | .tuple => .type "tuple" | .int => .type "int" | .str => .type "str"
  | b => .builtin b.nm
theorem Blt.boot (b : Blt) : bootBuiltins (b.nm : Str) = some b.va := by cases b <;> decide +kernel

inductive Vws (K : PySem.W.Frag) (H : Hp) (O : Addr → Prop) : List V → List D → Prop
  | nil : Vws K H O [] []
  | cons {v vs d ds} : Vw K H O v d → Vws K H O vs ds → Vws K H O (v :: vs) (d :: ds)
def rK (K : PySem.W.Frag) (b : Blt) : List V → Hp → VK → Prop := fun vs H Q => ∃ O ds sv, Vws K H O vs ds ∧ bltD b ds = some sv ∧ ∀ v H', New K O H sv v H' → Q v H'

theorem fold_max : ∀ (ns : List Int) (n m : Int), (m = n ∨ m ∈ ns) → n ≤ m → (∀ y ∈ ns, y ≤ m) → ns.foldl max n = m
  | [], n, m, h, _, _ => by
    rcases h with h | h
    · exact h.symm
    · cases h
  | k :: ns, n, m, h, h1, h2 => by
    rw [List.foldl_cons]
    have hk := h2 k List.mem_cons_self
    refine fold_max ns (max n k) m ?_ (by omega) fun y hy => h2 y (List.mem_cons_of_mem _ hy)
    rcases h with h | h
    · exact .inl (by omega)
    · rcases List.mem_cons.mp h with h | h
      · exact .inl (by omega)
      · exact .inr h
theorem fold_min : ∀ (ns : List Int) (n m : Int), (m = n ∨ m ∈ ns) → m ≤ n → (∀ y ∈ ns, m ≤ y) → ns.foldl min n = m
  | [], n, m, h, _, _ => by
    rcases h with h | h
    · exact h.symm
    · cases h
  | k :: ns, n, m, h, h1, h2 => by
    rw [List.foldl_cons]
    have hk := h2 k List.mem_cons_self
    refine fold_min ns (min n k) m ?_ (by omega) fun y hy => h2 y (List.mem_cons_of_mem _ hy)
    rcases h with h | h
    · exact .inl (by omega)
    · rcases List.mem_cons.mp h with h | h
      · exact .inl (by omega)
      · exact .inr h
mutual
theorem nodict : ∀ d : D, nd d = true → PyData.hasDict (toPy d) = false
  | .non, _ => by simp [toPy, PyData.hasDict]
  | .bl _, _ => by simp [toPy, PyData.hasDict]
  | .int _, _ => by simp [toPy, PyData.hasDict]
  | .str _, _ => by simp [toPy, PyData.hasDict]
  | .tup ds, h => by simp only [toPy, PyData.hasDict]; exact nodicts ds (by simpa [nd] using h)
  | .lst ds, h => by simp only [toPy, PyData.hasDict]; exact nodicts ds (by simpa [nd] using h)
  | .dic _, h => by simp [nd] at h
  | .exc _, h => by simp [nd] at h
theorem nodicts : ∀ ds : List D, nds ds = true → PyData.hasDictAll (toPys ds) = false
  | [], _ => by simp [toPys, PyData.hasDictAll]
  | d :: ds, h => by
    have h' : nd d = true ∧ nds ds = true := by simpa [nds] using h
    simp only [toPys, PyData.hasDictAll, nodict d h'.1, nodicts ds h'.2, Bool.or_self]
end
mutual
theorem nd_of_alike : ∀ d : D, PySem.W.alike (toPy d) (toPy d) = true → nd d = true
  | .non, _ => rfl
  | .bl _, _ => rfl
  | .int _, _ => rfl
  | .str _, _ => rfl
  | .tup ds, h => by
    have := nds_of_alike ds (by simpa [toPy, PySem.W.alike] using h)
    simpa [nd] using this
  | .lst ds, h => by
    have := nds_of_alike ds (by simpa [toPy, PySem.W.alike] using h)
    simpa [nd] using this
  | .dic _, h => by simp [toPy, PySem.W.alike] at h
  | .exc _, h => by simp [toPy, PySem.W.alike] at h
theorem nds_of_alike : ∀ ds : List D, PySem.W.alikeAll (toPys ds) (toPys ds) = true → nds ds = true
  | [], _ => rfl
  | d :: ds, h => by
    have h' : PySem.W.alike (toPy d) (toPy d) = true ∧ PySem.W.alikeAll (toPys ds) (toPys ds) = true := by simpa [toPys, PySem.W.alikeAll] using h
    simp only [nds, nd_of_alike d h'.1, nds_of_alike ds h'.2, Bool.and_self]
end
section
variable {X : Cx}
theorem call_repr {pins : List (Addr × Obj)} {s : Shared} {σ : L2.St} {H : Hp} {x : V} {u : Value} {d : D} {Q : VK} (hg : X.A.guards = some []) (hu : X.A.units + 70 < cLine) (I : Inv X pins σ H s) (r : RelV x u) (h : Dp X.K H x (toPy d)) (hn : nd d = true)
    (hs : (toPy d).showable = true) (hd : (toPy d).depth ≤ 64) (hz : (toPy d).shown.length ≤ sizeLine) (q : Q (.str (toPy d).shown) H) : wpAny (model X.prog X.w) X.A (call (.builtin "repr") [u]) (EP X pins σ Q) X.xe s := by
  obtain ⟨as, rd⟩ := Dp.reads I _ x u h r
  cases x with
  | ref a =>
    cases r
    refine repr_of_reads' rd hs (PyData.noDict_hsm (nodict d hn)) hg (by omega) (fun _ _ e => e) (fun h' t tk k => ?_) hz
    exact ⟨.str _, H, I.kept (t' := tk) k, ⟨_, rfl⟩, q⟩
  | non =>
    cases r
    cases d <;> simp only [toPy] at h <;> cases h
    simp only [toPy, PyData.shown] at q
    exact PySem.P.repr_of_none ⟨.str _, H, I.tok _, ⟨_, rfl⟩, q⟩
  | bl b =>
    cases r
    cases d <;> simp only [toPy] at h <;> cases h
    simp only [toPy, PyData.shown] at q
    exact PySem.P.repr_of_bool ⟨.str (if b = true then "True" else "False"), H, I.tok _, ⟨s.toks, by cases b <;> rfl⟩, q⟩
  | int b =>
    obtain ⟨t, rfl⟩ := r
    cases d <;> simp only [toPy] at h <;> cases h
    simp only [toPy, PyData.shown] at q
    simp only [toPy, PyData.showable, decide_eq_true_eq] at hs
    exact PySem.P.repr_of_int hs ⟨.str _, H, I.tok _, ⟨_, rfl⟩, q⟩
  | str b =>
    obtain ⟨t, rfl⟩ := r
    cases d <;> simp only [toPy] at h <;> cases h
    simp only [toPy, PyData.shown] at q
    simp only [toPy, PyData.shown] at hz
    exact PySem.P.repr_of_str ⟨.str _, H, I.tok _, ⟨_, rfl⟩, q⟩ hz
  | byt b => cases h
  | flt b => cases h
  | ty b => cases h
theorem Vws.one {K : PySem.W.Frag} {H : Hp} {O : Addr → Prop} {vs : List V} {d : D} (h : Vws K H O vs [d]) : ∃ v, vs = [v] ∧ Vw K H O v d := by
  cases h with | cons a r => cases r; exact ⟨_, rfl, a⟩
theorem Vws.two {K : PySem.W.Frag} {H : Hp} {O : Addr → Prop} {vs : List V} {d e : D} (h : Vws K H O vs [d, e]) : ∃ v u, vs = [v, u] ∧ Vw K H O v d ∧ Vw K H O u e := by
  cases h with | cons a r => cases r with | cons b r => cases r; exact ⟨_, _, rfl, a, b⟩
theorem toPys_map (ds : List D) : toPys ds = ds.map toPy := by
  induction ds with
  | nil => rfl
  | cons d ds ih => show toPy d :: toPys ds = _; rw [ih]; rfl
theorem triples {K : PySem.W.Frag} {H : Hp} {O : Addr → Prop} : ∀ {xs : List V} {ds : List D} {us : List Value}, Rps K H O xs ds → Vals xs us → ∃ zs : List (Value × V × D), zs.map (·.1) = us ∧ zs.map (·.2.1) = xs ∧ zs.map (·.2.2) = ds ∧ ∀ z ∈ zs, RelV z.2.1 z.1 ∧ Rp K H O z.2.1 z.2.2
  | _, _, _, .nil, .nil => ⟨[], rfl, rfl, rfl, fun _ h => nomatch h⟩
  | _, _, _, .cons h r, .cons g t => by
    obtain ⟨zs, e1, e2, e3, k⟩ := triples r t
    refine ⟨(_, _, _) :: zs, by rw [List.map_cons, e1], by rw [List.map_cons, e2], by rw [List.map_cons, e3], fun z hz => ?_⟩
    rcases List.mem_cons.mp hz with e | hz
    · subst e; exact ⟨g, h⟩
    · exact k z hz
theorem vals_map : ∀ {zs : List (Value × V × D)}, (∀ z ∈ zs, RelV z.2.1 z.1) → Vals (zs.map (·.2.1)) (zs.map (·.1))
  | [], _ => .nil
  | z :: zs, h => .cons (h z List.mem_cons_self) (vals_map fun y hy => h y (List.mem_cons_of_mem _ hy))
theorem rps_map {K : PySem.W.Frag} {H : Hp} {O : Addr → Prop} : ∀ {zs : List (Value × V × D)}, (∀ z ∈ zs, Rp K H O z.2.1 z.2.2) → Rps K H O (zs.map (·.2.1)) (zs.map (·.2.2))
  | [], _ => .nil
  | z :: zs, h => .cons (h z List.mem_cons_self) (rps_map fun y hy => h y (List.mem_cons_of_mem _ hy))
theorem each_map {R : Value → PyData → Prop} : ∀ {zs : List (Value × V × D)}, (∀ z ∈ zs, R z.1 (toPy z.2.2)) → PySem.W.EachIs R (zs.map (·.1)) ((zs.map (·.2.2)).map toPy)
  | [], _ => .nil
  | z :: zs, h => .cons (h z List.mem_cons_self) (each_map fun y hy => h y (List.mem_cons_of_mem _ hy))
theorem call_sorted {pins : List (Addr × Obj)} {s : Shared} {σ : L2.St} {H : Hp} {a : Addr} {xs : List V} {ds : List D} {O : Addr → Prop} {Q : VK} (hu : X.A.units + 70 < cLine) (I : Inv X pins σ H s) (hs : SqL X.K H a xs) (rr : Rps X.K H O xs ds)
    (hk : sortOk ds) (q : ∀ p xs', H p = none → Rps X.K H O xs' (sortD ds) → Q (.ref p) (upd H p (.lst xs'))) : wpAny (model X.prog X.w) X.A (call (.builtin "sorted") [.ref a]) (EP X pins σ Q) X.xe s := by
  obtain ⟨its, rv, hl, hz⟩ := I.list hs
  obtain ⟨zs, e1, e2, e3, al⟩ := triples rr rv
  obtain ⟨k1, k2, k3⟩ := hk
  have hal : PySem.W.AllAlike (ds.map toPy) := fun d hd d' hd' => by
    obtain ⟨x, hx, rfl⟩ := List.mem_map.mp hd
    obtain ⟨y, hy, rfl⟩ := List.mem_map.mp hd'
    exact List.all_eq_true.mp (List.all_eq_true.mp k1 x hx) y hy
  have hso : PySem.W.Sortable (ds.map toPy) := by
    rcases k2 with k2 | k2
    · refine .inl fun d hd => ?_
      obtain ⟨x, hx, rfl⟩ := List.mem_map.mp hd
      have := List.all_eq_true.mp k2 x hx
      cases x <;> first | (cases this; done) | skip
      rename_i es
      cases es with
      | nil => cases this
      | cons e es => exact ⟨toPy e, toPys es, by simp only [toPy, toPys]⟩
    · refine .inr fun d hd => ?_
      obtain ⟨x, hx, rfl⟩ := List.mem_map.mp hd
      have := List.all_eq_true.mp k2 x hx
      cases x <;> first | (cases this; done) | skip
      all_goals exact ⟨by simp [toPy], by simp [toPy]⟩
  have hdp : ∀ d, d ∈ ds.map toPy → X.A.in1.in1.units + d.depth < cLine := fun d hd => by
    obtain ⟨x, hx, rfl⟩ := List.mem_map.mp hd
    have := List.all_eq_true.mp k3 x hx
    simp only [decide_eq_true_eq] at this
    have e : X.A.in1.in1.units = X.A.units + 1 + 1 := rfl
    omega
  have rd : ∀ z ∈ zs, ∃ as, Reads (PySem.W.sortingHeap (PySem.W.copyHeap s.heap its) (s.heap.objs.size + 1) its) z.1 (toPy z.2.2) as := fun z hz => by
    obtain ⟨h1, h2⟩ := al z hz
    have hm : z.2.2 ∈ ds := by rw [← e3]; exact List.mem_map_of_mem (f := fun z : Value × V × D => z.2.2) hz
    obtain ⟨as, h3⟩ := Dp.reads I _ _ _ (h2.dp (nd_of_alike _ (List.all_eq_true.mp (List.all_eq_true.mp k1 _ hm) _ hm))) h1
    exact ⟨as, PyProof.Rows.Reads.keeps (fun b o e => PySem.W.sorting_copy_old e) h3⟩
  have mem : ∀ z ∈ zs, toPy z.2.2 ∈ ds.map toPy := fun z hz => List.mem_map_of_mem (by rw [← e3]; exact List.mem_map_of_mem (f := fun z : Value × V × D => z.2.2) hz)
  have each := each_map (R := fun v d => ∃ as, Reads (PySem.W.sortingHeap (PySem.W.copyHeap s.heap its) (s.heap.objs.size + 1) its) v d as) rd
  rw [e1, e3] at each
  have S := PySem.W.SortsAt.data (prog := X.prog) (w := X.w) (A := X.A.in1.in1) (s := { s with heap := PySem.W.sortingHeap (PySem.W.copyHeap s.heap its) (s.heap.objs.size + 1) its }) each hal hso hdp
  refine PySem.W.sorted_vals hl.isList S (by rw [← rv.length]; exact hz) ?_
  have es : PySem.W.sortVals (PySem.W.dataKind (PySem.W.sortingHeap (PySem.W.copyHeap s.heap its) (s.heap.objs.size + 1) its) (ds.map toPy)) false its its = (zs.mergeSort fun z w => leD z.2.2 w.2.2).map (·.1) := by
    unfold PySem.W.sortVals
    have ez : its.zip its = zs.map fun z => (z.1, z.1) := by rw [← e1, List.zip_map']
    rw [ez, ← PySem.W.sort_maps (r := fun z w => leD z.2.2 w.2.2) (fun z : Value × V × D => ((z.1, z.1) : Keyed)) (fun z hz w hw => ?_), List.map_map]
    · rfl
    · obtain ⟨as, h1⟩ := rd z hz
      obtain ⟨bs, h2⟩ := rd w hw
      have g1 := PySem.W.keyD_some (PySem.W.dataKind_some hal (mem z hz) h1)
      have g2 := PySem.W.keyD_some (PySem.W.dataKind_some hal (mem w hw) h2)
      unfold PySem.W.sortLe
      dsimp only
      rw [g1, g2]
      rfl
  have ed : (zs.mergeSort fun z w => leD z.2.2 w.2.2).map (·.2.2) = sortD ds := by
    unfold sortD
    rw [PySem.W.sort_maps (s := leD) (fun z : Value × V × D => z.2.2) (fun _ _ _ _ => rfl), e3]
  have ms : ∀ z ∈ zs.mergeSort fun z w => leD z.2.2 w.2.2, z ∈ zs := fun z hz => (List.mergeSort_perm _ _).mem_iff.mp hz
  rw [es]
  generalize zs.mergeSort (fun z w => leD z.2.2 w.2.2) = out at ed ms
  have vo := vals_map (zs := out) fun z hz => (al z (ms z hz)).1
  have ro := rps_map (zs := out) fun z hz => (al z (ms z hz)).2
  rw [ed] at ro
  obtain ⟨ep, he'⟩ := PyProof.Rows.sortedAll_at s.heap its (out.map (·.1)).toArray
  have hlen : (out.map (·.2.1)).length ≤ sizeLine := by
    have h1 : (out.map (·.2.1)).length = (sortD ds).length := by rw [← ed, List.length_map, List.length_map]
    rw [h1]
    unfold sortD
    rw [List.length_mergeSort, ← rr.length]
    exact hz
  exact ⟨.ref _, upd H (s.heap.objs.size + 1) (.lst (out.map (·.2.1))), I.laid (t' := s.toks) (fun _ _ => PyProof.Rows.sortedAll_old) (Nat.le_succ _) ⟨hlen, out.map (·.1), ep, vo, he'⟩, rfl, q _ _ (I.hok.fresh (Nat.le_succ _)) ro⟩
theorem call_b (b : Blt) (hc : X.calm = true) (hg : X.A.guards = some []) (hu : X.A.units + 70 < cLine) : CallR X b.va (rK X.K b) := by
  intro pins s σ H vs us Q I r ⟨O, ds, sv, hv, hb, q⟩
  unfold bltD at hb
  split at hb
  · split at hb
    · rename_i hz
      obtain ⟨v, rfl, w⟩ := hv.one
      cases hb; cases w.str
      exact call_len pins s σ H _ us Q I r ⟨_, _, rfl, ⟨by rw [← lineN_eq]; exact hz, rfl⟩, q _ _ new_int⟩
    · cases hb
  · obtain ⟨v, rfl, w⟩ := hv.one
    obtain ⟨a, xs, rfl, sx, rr⟩ := w.lst
    cases hb
    exact call_len pins s σ H _ us Q I r ⟨_, _, rfl, .inl ⟨xs, sx, rr.length.symm⟩, q _ _ new_int⟩
  · obtain ⟨v, rfl, w⟩ := hv.one
    obtain ⟨a, xs, rfl, sx, rr, _⟩ := w.tup
    cases hb
    exact call_len pins s σ H _ us Q I r ⟨_, _, rfl, .inr ⟨xs, sx, rr.length.symm⟩, q _ _ new_int⟩
  · obtain ⟨v, u, rfl, w, w2⟩ := hv.two
    cases hb; cases w.int; cases w2.int
    rename_i i j
    refine call_min2 hc pins s σ H _ us Q I r ⟨_, _, rfl, ?_⟩
    have e : (if j < i then j else i) = min i j := by split <;> omega
    rw [e]
    exact q _ _ new_int
  · obtain ⟨v, u, rfl, w, w2⟩ := hv.two
    cases hb; cases w.int; cases w2.int
    rename_i i j
    refine call_max2 hc pins s σ H _ us Q I r ⟨_, _, rfl, ?_⟩
    have e : (if j > i then j else i) = max i j := by split <;> omega
    rw [e]
    exact q _ _ new_int
  · obtain ⟨v, rfl, w⟩ := hv.one
    obtain ⟨a, xs, rfl, sx, rr⟩ := w.lst
    simp only [Option.map_eq_some_iff] at hb
    obtain ⟨ns, h1, rfl⟩ := hb
    rw [intsOf_map h1] at rr
    have e := rr.of_ints
    subst e
    exact cr_sum hc pins s σ H _ us Q I r ⟨a, ns, rfl, sx, q _ _ new_int⟩
  · obtain ⟨v, rfl, w⟩ := hv.one
    obtain ⟨a, xs, rfl, sx, rr⟩ := w.lst
    simp only [Option.map_eq_some_iff, Option.bind_eq_some_iff] at hb
    obtain ⟨ns, h1, m, h2, rfl⟩ := hb
    rw [intsOf_map h1] at rr
    have e := rr.of_ints
    subst e
    cases ns with
    | nil => cases h2
    | cons n ns =>
      refine cr_min hc pins s σ H _ us Q I r ⟨a, n :: ns, rfl, sx, by simp, fun m' hm hle => ?_⟩
      have e : m = m' := by
        have e2 : ns.foldl min n = m := Option.some.inj h2
        rw [← e2]
        exact fold_min ns n m' (List.mem_cons.mp hm) (hle n List.mem_cons_self) fun y hy => hle y (List.mem_cons_of_mem _ hy)
      subst e
      exact q _ _ new_int
  · obtain ⟨v, rfl, w⟩ := hv.one
    obtain ⟨a, xs, rfl, sx, rr⟩ := w.lst
    simp only [Option.map_eq_some_iff, Option.bind_eq_some_iff] at hb
    obtain ⟨ns, h1, m, h2, rfl⟩ := hb
    rw [intsOf_map h1] at rr
    have e := rr.of_ints
    subst e
    cases ns with
    | nil => cases h2
    | cons n ns =>
      refine cr_max hc pins s σ H _ us Q I r ⟨a, n :: ns, rfl, sx, by simp, fun m' hm hle => ?_⟩
      have e : m = m' := by
        have e2 : ns.foldl max n = m := Option.some.inj h2
        rw [← e2]
        exact fold_max ns n m' (List.mem_cons.mp hm) (hle n List.mem_cons_self) fun y hy => hle y (List.mem_cons_of_mem _ hy)
      subst e
      exact q _ _ new_int
  · obtain ⟨v, rfl, w⟩ := hv.one
    obtain ⟨a, xs, rfl, sx, rr⟩ := w.lst
    cases hb
    exact call_list_of pins s σ H _ us Q I r ⟨a, xs, rfl, .inl sx, fun p hp => q _ _ ⟨p, _, hp, rfl, rfl, rr⟩⟩
  · obtain ⟨v, rfl, w⟩ := hv.one
    obtain ⟨a, xs, rfl, sx, rr, _⟩ := w.tup
    cases hb
    exact call_list_of pins s σ H _ us Q I r ⟨a, xs, rfl, .inr sx, fun p hp => q _ _ ⟨p, _, hp, rfl, rfl, rr⟩⟩
  · obtain ⟨v, rfl, w⟩ := hv.one
    obtain ⟨a, xs, rfl, sx, rr⟩ := w.lst
    cases hb
    exact call_tuple_of pins s σ H _ us Q I r ⟨a, xs, rfl, .inl ⟨sx, fun p hp => q _ _ (.inr ⟨p, _, _, rfl, hp, rfl, rfl, rr⟩)⟩⟩
  · obtain ⟨v, rfl, w⟩ := hv.one
    obtain ⟨a, xs, rfl, sx, rr, r0⟩ := w.tup
    cases hb
    exact call_tuple_of pins s σ H _ us Q I r ⟨a, xs, rfl, .inr ⟨sx, q _ _ (.inl ⟨rfl, r0⟩)⟩⟩
  · obtain ⟨v, rfl, w⟩ := hv.one
    cases hb; cases w.int
    exact call_int1 pins s σ H _ us Q I r (.inl ⟨_, rfl, q _ _ new_int⟩)
  · obtain ⟨v, rfl, w⟩ := hv.one
    cases hb; cases w.bl
    exact call_int1 pins s σ H _ us Q I r (.inr ⟨_, rfl, q _ _ new_int⟩)
  · split at hb
    · rename_i hz
      obtain ⟨v, rfl, w⟩ := hv.one
      cases hb; cases w.int
      exact call_str_int pins s σ H _ us Q I r ⟨_, rfl, hz, q _ _ new_str⟩
    · cases hb
  · obtain ⟨v, rfl, w⟩ := hv.one
    cases hb; cases w.int
    exact call_abs pins s σ H _ us Q I r ⟨_, rfl, q _ _ new_int⟩
  · obtain ⟨v, rfl, w⟩ := hv.one
    obtain ⟨a, xs, rfl, sx, rr⟩ := w.lst
    simp only [Option.map_eq_some_iff] at hb
    obtain ⟨ns, h1, rfl⟩ := hb
    rw [blsOf_map h1] at rr
    have e := rr.of_bls
    subst e
    exact cr_all hc pins s σ H _ us Q I r ⟨a, ns, rfl, sx, q _ _ (.inl ⟨rfl, .bl _⟩)⟩
  · obtain ⟨v, rfl, w⟩ := hv.one
    obtain ⟨a, xs, rfl, sx, rr⟩ := w.lst
    simp only [Option.map_eq_some_iff] at hb
    obtain ⟨ns, h1, rfl⟩ := hb
    rw [blsOf_map h1] at rr
    have e := rr.of_bls
    subst e
    exact cr_any hc pins s σ H _ us Q I r ⟨a, ns, rfl, sx, q _ _ (.inl ⟨rfl, .bl _⟩)⟩
  · split at hb
    · rename_i hz
      obtain ⟨v, rfl, w⟩ := hv.one
      cases hb
      obtain ⟨u, rfl, ru⟩ := vals1 r
      exact call_repr hg hu I ru (w.dp hz.2.1) hz.2.1 hz.1 hz.2.2.1 (by rw [← lineN_eq]; exact hz.2.2.2) (q _ _ new_str)
    · cases hb
  · split at hb
    · rename_i hz
      obtain ⟨v, rfl, w⟩ := hv.one
      obtain ⟨a, xs, rfl, sx, rr⟩ := w.lst
      cases hb
      obtain ⟨u, rfl, ru⟩ := vals1 r
      obtain rfl : u = Value.ref a := ru
      exact call_sorted hu I sx rr hz fun p xs' hp r => q _ _ ⟨p, xs', hp, rfl, rfl, r⟩
    · cases hb
  · cases hb
end
end FL

set_option maxRecDepth 100000
set_option maxHeartbeats 4000000
/-! Calls of built-in functions, methods of lists, stores, targets, what a loop walks. -/
namespace FL
open PySem PySem.Spec PyProof.Rows L2

def pks (S : FS) : List Arg → Option (List D)
  | [] => some []
  | x :: xs => (pk S x).bind fun d => (pks S xs).bind fun ds => some (d :: ds)
def rBlt (b : Blt) (fs : FA) : FE := fun S => (fs S).bind fun xs S1 => .of ((pks S1 xs).bind fun ds => (bltD b ds).map Arg.tmp) S1
def rIsi (ts : List Ty) (fa : FE) : FE := fun S => (fa S).bind fun x S1 => .of ((pk S1 x).map fun d => Arg.tmp (.val (.bl (ts.any (isiD d))))) S1
def rRep (fa fb : FE) : FE := fun S => (fa S).bind fun x S1 => (fb S1).bind fun y S2 => match x, pk S2 y with
  | .tmp (.own (.lst ds)), some (.int j) => if j < 1000000 ∧ -1000000 < j ∧ ds.length * j.toNat ≤ lineN then .ok (.tmp (.own (List.replicate j.toNat ds).flatten)) S2 else .no
  | _, _ => .no
inductive Mth where
  | append | pop | reverse | clear
def mthD : Mth → List D → List D → Option (D × List D)
  | .append, ds, [d] => if ds.length < lineN then some (.non, ds ++ [d]) else none
  | .pop, ds, [] => (ds[ds.length - 1]?).map fun d => (d, ds.dropLast)
  | .pop, ds, [.int i] => if -1000000000 < i ∧ i < 1000000000 then (seqIndex? i ds.length).bind fun k => (ds[k]?).map fun d => (d, ds.eraseIdx k) else none
  | .reverse, ds, [] => some (.non, ds.reverse)
  | .clear, _, [] => some (.non, [])
  | _, _, _ => none
def Mth.nm : Mth → String
  | .append => "append" | .pop => "pop" | .reverse => "reverse" | .clear => "clear"
def Mth.id : Mth → String
  | .append => "list.append" | .pop => "list.pop" | .reverse => "list.reverse" | .clear => "list.clear"
def isOwn (S : FS) (i : Nat) : Bool := match gt S i with
  | some (.own _) => true
  | _ => false
def isLst (S : FS) (i : Nat) : Bool := match gt S i with
  | some (.own (.lst _)) => true
  | _ => false
def rMth (i : Nat) (m : Mth) (fs : FA) : FE := fun S => if isLst S i = true then (fs S).bind fun xs S1 => match tks xs S1 with
    | some (as, S2) => match gt S2 i with
      | some (.own (.lst ds)) => match mthD m ds as with
        | some (r, ds') => .ok (.tmp (.val r)) (st S2 i (some (.own ds')))
        | none => .no
      | _ => .no
    | none => .no
  else .no
/-- slot.extend(e) -/
def rExt (i : Nat) (fa : FE) : FE := fun S => if isLst S i = true then (fa S).bind fun x S1 => match x with
    | .tmp (.own (.lst es)) => match gt S1 i with
      | some (.own (.lst ds)) => if ds.length + es.length ≤ lineN then .ok (.tmp (.val .non)) (st S1 i (some (.own (ds ++ es)))) else .no
      | _ => .no
    | .ref j => if i = j then .no else match gt S1 i, gt S1 j with
      | some (.own (.lst ds)), some (.own (.lst es)) => if ds.length + es.length ≤ lineN then .ok (.tmp (.val .non)) (st S1 i (some (.own (ds ++ es)))) else .no
      | _, _ => .no
    | _ => .no
  else .no

section
variable {c : FCx} {Z Z2 : Addr → Prop} {σ : Slots} {H H' H1 H2 : Hp} {S S' S1 S2 : FS} {v : V} {x : Arg} {d : D}
theorem pks_vws (f : Fr c Z σ H S) : ∀ {vs : List V} {xs : List Arg} {ds : List D}, ARs c (OO σ S Z) σ H vs xs → pks S xs = some ds → Vws c.K H (OO σ S Z) vs ds
  | _, _, _, .nil, h => by cases h; exact .nil
  | _, _, ds, .cons a r, h => by
    simp only [pks, Option.bind_eq_some_iff] at h
    obtain ⟨d, h1, es, h2, h3⟩ := h
    cases h3
    exact .cons (pk_vw f a h1) (pks_vws f r h2)
theorem isOwn_iff {i : Nat} (h : isOwn S i = true) : ∃ b, gt S i = some (.own b) := by
  unfold isOwn at h
  split at h
  · rename_i ds q; exact ⟨ds, q⟩
  · cases h
theorem isLst_iff {i : Nat} (h : isLst S i = true) : ∃ ds : List D, gt S i = some (.own ds) := by
  unfold isLst at h
  split at h
  · rename_i ds q; exact ⟨ds, q⟩
  · cases h
/-- a slot's box is changed -/
theorem Fr.writeB (f : Fr c Z σ H S) {i : Nat} {ds ds' : Bx} {xs' : HO} {a : Addr} (h : gt S i = some (.own ds)) (hv : σ[i]? = some (some (.ref a))) (r : ∀ O' : Addr → Prop, (∀ b o, H b = some o → ¬ OO σ S Z b → upd H a xs' b = some o) → (∀ b, O' b → OO σ S Z b ∨ H b = none) → SR c.K (upd H a xs') O' (.ref a) (.own ds')) :
    Step c Z σ H S σ (upd H a xs') (st S i (some (.own ds'))) := by
  have hi := gt_lt h
  have oa : Own σ S a := ⟨i, ds, h, hv⟩
  have ow : ∀ b, Own σ (st S i (some (.own ds'))) b → Own σ S b := fun b ⟨j, es, h1, h2⟩ => by
    rw [gt_st] at h1
    by_cases hj : i = j
    · subst hj
      rw [hv] at h2; cases h2
      exact oa
    · rw [if_neg hj] at h1
      exact ⟨j, es, h1, h2⟩
  have ow' : ∀ b, Own σ S b → Own σ (st S i (some (.own ds'))) b := fun b ⟨j, es, h1, h2⟩ => by
    by_cases hj : i = j
    · subst hj
      exact ⟨i, ds', by rw [gt_st, if_pos rfl, if_pos hi], h2⟩
    · exact ⟨j, es, by rw [gt_st, if_neg hj]; exact h1, h2⟩
  have k : ∀ b o, H b = some o → b ≠ a → upd H a xs' b = some o := fun b o e n => by rw [upd_ne n]; exact e
  have kO : ∀ b o, H b = some o → ¬ OO σ S Z b → upd H a xs' b = some o := fun b o e n => k b o e fun z => n (.inl (z ▸ oa))
  have tr : ∀ b, H b ≠ none → upd H a xs' b ≠ none := fun b n => by
    by_cases e : b = a
    · subst e; exact upd_some
    · rw [upd_ne e]; exact n
  have g : ∀ b, OO σ (st S i (some (.own ds'))) Z b → OO σ S Z b ∨ H b = none := fun b z => .inl (z.elim (fun q => .inl (ow b q)) .inr)
  refine ⟨⟨by rw [st_len]; exact f.len, fun j sv hj => ?_, fun j k es es' b h1 h2 h3 h4 => ?_, fun b hb => f.own b (ow b hb), fun b o e n => ?_, fun b n => tr b (f.tr0 b n), fun b z => tr b (f.ztr b z), fun j b hb => ?_⟩, fun b o e n => k b o e fun z => n (z ▸ oa), fun b z => .inl (ow b z), tr⟩
  · rw [gt_st] at hj
    by_cases e : i = j
    · rw [if_pos e, if_pos hi] at hj
      cases hj; subst e
      exact ⟨_, hv, r _ kO g⟩
    · rw [if_neg e] at hj
      obtain ⟨w, e1, rw'⟩ := f.rel j sv hj
      refine ⟨w, e1, rw'.mono kO g fun b es ys e2 e3 e4 => k b _ e4 fun z => ?_⟩
      subst e2; subst e3; subst z
      exact e (f.inj i j ds es _ h hj hv e1)
  · have key : ∀ {j es}, gt (st S i (some (.own ds'))) j = some (.own es) → ∃ es', gt S j = some (.own es') := fun {j es} q => by
      rw [gt_st] at q
      by_cases e : i = j
      · subst e; exact ⟨ds, h⟩
      · rw [if_neg e] at q; exact ⟨es, q⟩
    obtain ⟨_, q1⟩ := key h1
    obtain ⟨_, q2⟩ := key h2
    exact f.inj j k _ _ b q1 q2 h3 h4
  · by_cases e2 : b = a
    · subst e2
      rcases (f.own b oa).1 with q | q
      · exact (n q).elim
      · rw [q] at e; cases e
    · exact k b o (f.keep b o e n) e2
  · obtain ⟨h1, ⟨sv, h2⟩, h3, h4⟩ := f.lnt j b hb
    refine ⟨h1, ?_, tr b h3, fun k es q1 q2 => ?_⟩
    · rw [gt_st]
      by_cases e : i = j
      · rw [if_pos e, if_pos hi]; exact ⟨_, rfl⟩
      · rw [if_neg e]; exact ⟨sv, h2⟩
    · rw [gt_st] at q1
      by_cases e : i = k
      · subst e; exact h4 i ds h q2
      · rw [if_neg e] at q1; exact h4 k es q1 q2
/-- a slot's list is changed -/
theorem Fr.write (f : Fr c Z σ H S) {i : Nat} {ds ds' : List D} {xs xs' : List V} {a : Addr} (h : gt S i = some (.own ds)) (hv : σ[i]? = some (some (.ref a))) (ha : H a = some (.lst xs)) (r : Rps c.K H (OO σ S Z) xs' ds') :
    Step c Z σ H S σ (upd H a (.lst xs')) (st S i (some (.own ds'))) := f.writeB h hv fun O' k g => ⟨a, xs', rfl, upd_same, r.mono k g⟩
end

/-- how a list's method is read -/
def rM (K : PySem.W.Frag) (m : Mth) : V → List V → Hp → VK → Prop := fun x vs H Q => ∃ O l xs ds as r ds', x = .ref l ∧ H l = some (.lst xs) ∧ Rps K H O xs ds ∧ Rps K H O vs as ∧ mthD m ds as = some (r, ds') ∧
  ∀ v xs', Rp K H O v r → Rps K H O xs' ds' → Q v (upd H l (.lst xs'))
section
variable {X : Cx}
theorem mt_m (m : Mth) : MtR X m.id (rM X.K m) := by
  intro pins s σ H x vs v us Q I rx rs ⟨O, l, xs, ds, as, r, ds', ex, hl, r1, r2, hm, q⟩
  unfold mthD at hm
  split at hm
  · split at hm
    · rename_i hz
      cases hm
      cases r2 with | cons a b => cases b; exact mt_append pins s σ H x _ v us Q I rx rs ⟨l, xs, _, ex, rfl, hl, by rw [r1.length, ← lineN_eq]; exact hz, q _ _ .non (r1.append (.cons a .nil))⟩
    · cases hm
  · simp only [Option.map_eq_some_iff] at hm
    obtain ⟨d, h1, h2⟩ := hm
    cases h2; cases r2
    rw [← r1.length] at h1
    obtain ⟨y, h3, h4⟩ := r1.get h1
    exact mt_pop pins s σ H x _ v us Q I rx rs ⟨l, xs, y, ex, rfl, hl, h3, q _ _ h4 r1.dropLast⟩
  · split at hm
    · rename_i hz
      simp only [Option.bind_eq_some_iff, Option.map_eq_some_iff] at hm
      obtain ⟨k, h1, d, h2, h3⟩ := hm
      cases h3
      cases r2 with
      | cons a b =>
        cases b; cases a
        rw [← r1.length] at h1
        obtain ⟨y, h4, h5⟩ := r1.get h2
        exact mt_popAt pins s σ H x _ v us Q I rx rs ⟨l, xs, _, k, y, ex, rfl, hl, by omega, by omega, h1, h4, q _ _ h5 (r1.eraseIdx k)⟩
    · cases hm
  · cases hm; cases r2
    exact mt_reverse pins s σ H x _ v us Q I rx rs ⟨l, xs, ex, rfl, hl, q _ _ .non r1.reverse⟩
  · cases hm; cases r2
    exact mt_clear pins s σ H x _ v us Q I rx rs ⟨l, xs, ex, rfl, hl, q _ _ .non .nil⟩
  · cases hm
end
theorem mth_slot (m : Mth) : Slot "list" (m.nm : Str) m.id := by
  cases m
  · exact PySem.F.slot_list_append
  · exact PySem.F.slot_list_pop
  · exact PySem.F.slot_list_reverse
  · exact PySem.F.slot_list_clear
theorem mth_ty (m : Mth) : typeOf (.builtin m.id) = pure (.type "method_descriptor") := by
  cases m
  · exact PySem.F.type_list_append
  · exact PySem.F.type_list_pop
  · exact PySem.F.type_list_reverse
  · exact PySem.F.type_list_clear

section
variable {X : Cx} {c : FCx} {W : WX} {a b e : Expr} {es : List Expr} {fa fb : FE} {fs : FA} {pos p apos cpos : Pos}
theorem sd_blt (bl : Blt) (hK : c.K = X.K) (hc : X.calm = true) (hg : X.A.guards = some []) (hu : X.A.units + 70 < cLine) (gl : Gl X (bl.nm : Str)) (mg : X.mg (bl.nm : Str) = none) (ha : PA X (e :: es) (tA c W fs)) (hn : ∀ x ∈ e :: es, NS x) :
    PE X (.Call (.Name (bl.nm : Str) p) (e :: es) [] pos) (tE c W (rBlt bl fs)) := by
  have h1 : ((bl.nm : Str) : Str) ≠ ("__name__" : Str) := by cases bl <;> decide +kernel
  have h2 : ((bl.nm : Str) == ("__debug__" : Str)) = false := by cases bl <;> decide +kernel
  have hs := star_cons (env := X.env) (es := es) (hn e List.mem_cons_self)
  have hp := star_none (pos := pos) (env := X.env) fun x hx => hn x (List.mem_cons_of_mem _ hx)
  have base : PE X (.Call (.Name (bl.nm : Str) p) (e :: es) [] pos) (tCB (rK X.K bl) (tA c W fs)) := by
    have cr := call_b bl hc hg hu
    have hb := bl.boot
    cases bl <;> first | exact pe_callB cr gl mg hb ha h1 h2 hs hp | exact pe_callTy cr gl mg hb ha h1 h2 hs hp
  refine PE_imp base fun σ H Q ⟨Z, S, fr, h⟩ => ?_
  refine tA_bind (post := fun r => PostE c W Z σ H S r Q) fr h (fun _ _ h => h) id fun xs S1 h1 vs H1 g1 => ?_
  obtain ⟨r, e1, h3⟩ := of_post (post := fun r => PostE c W Z σ H S r Q) h1 id
  simp only [Option.bind_eq_some_iff, Option.map_eq_some_iff] at e1
  obtain ⟨ds, e2, sv, e4, rfl⟩ := e1
  rw [← hK]
  exact ⟨_, ds, sv, pks_vws g1.step.fr g1.ar e2, e4, fun v' H' n => h3 v' H' (got_new fr g1.step zl n)⟩
/-- the classes of an isinstance -/
theorem sd_isi {t : Ty} {p2 : Pos} (hK : c.K = X.K) (gl : Gl X "isinstance") (mg : X.mg "isinstance" = none) (gt : Gl X (t.py : Str)) (mt : X.mg (t.py : Str) = none) (ha : PE X a (tE c W fa)) (hn : NS a) :
    PE X (.Call (.Name "isinstance" p) [a, .Name (t.py : Str) p2] [] pos) (tE c W (rIsi [t] fa)) := by
  have hb : bootBuiltins (t.py : Str) = some (.type t.py) := by cases t <;> decide +kernel
  have n1 : (t.py : Str) ≠ ("__name__" : Str) := by cases t <;> decide +kernel
  have n2 : ((t.py : Str) == ("__debug__" : Str)) = false := by cases t <;> decide +kernel
  have pt : PE X (.Name (t.py : Str) p2) (tC (.ty t.py)) := pe_bltn gt mt hb rfl n1 n2
  refine PE_imp (pe_callB call_isiD gl mg (by decide +kernel) (pa_cons ha (pa_cons pt pa_nil) (star_cons hn)) (by decide +kernel) (by decide +kernel) (star_cons hn) rfl) fun σ H Q ⟨Z, S, fr, h⟩ => ?_
  refine tE_bind (post := fun r => PostE c W Z σ H S r Q) fr h (fun _ _ h => h) id fun x S1 h1 v H1 g1 => ?_
  obtain ⟨r, e1, h3⟩ := of_post (post := fun r => PostE c W Z σ H S r Q) h1 id
  simp only [Option.map_eq_some_iff] at e1
  obtain ⟨d, e2, rfl⟩ := e1
  have w := pk_vw g1.step.fr g1.ar e2
  rw [hK] at w
  refine ⟨_, d, v, .ty t.py, _, _, rfl, .ty _, w, isi_v w t, ?_⟩
  have e : [t].any (isiD d) = isiD d t := by simp
  rw [e] at h3
  exact h3 _ _ (got_bl fr (g1.step.sub zl))
theorem rpart {ts : List Ty} : Paired ClsV (ts.map fun t => V.ty t.py) (ts.map fun t => Value.type t.py) := by
  induction ts with
  | nil => exact .nil
  | cons t ts ih => exact .cons (.ty _) ih
theorem sd_isiT {ts : List Ty} {k : Nat} {p2 : Pos} {ns : List Expr} (hK : c.K = X.K) (gl : Gl X "isinstance") (mg : X.mg "isinstance" = none) (hl : ts.length ≤ 10) (hns : PA X ns (fun _ H Q => Q (ts.map fun t => V.ty t.py) H)) (ha : PE X a (tE c W fa)) (hn : NS a) :
    PE X (.Call (.Name "isinstance" p) [a, .Tuple ns k p2] [] pos) (tE c W (rIsi ts fa)) := by
  refine PE_imp (pe_callB call_isiTD gl mg (by decide +kernel) (pa_cons ha (pa_cons (pe_tup hns) pa_nil) (star_cons hn)) (by decide +kernel) (by decide +kernel) (star_cons hn) rfl) fun σ H Q ⟨Z, S, fr, h⟩ => ?_
  refine tE_bind (post := fun r => PostE c W Z σ H S r Q) fr h (fun _ _ h => h) id fun x S1 h1 v H1 g1 => ?_
  obtain ⟨r, e1, h3⟩ := of_post (post := fun r => PostE c W Z σ H S r Q) h1 id
  simp only [Option.map_eq_some_iff] at e1
  obtain ⟨d, e2, rfl⟩ := e1
  refine ⟨by rw [List.length_map]; exact Nat.le_trans hl (by rw [sizeLine_eq]; decide), fun q hq => ?_⟩
  have fr2 := g1.step.fr.alloc (upd_keep (o := .tup (ts.map fun t => V.ty t.py)) hq)
  have ar2 := g1.ar.mono (fun a o e _ => upd_keep (o := .tup (ts.map fun t => V.ty t.py)) hq a o e) (fun _ z => .inl z) fun a _ o e => upd_keep (o := .tup (ts.map fun t => V.ty t.py)) hq a o e
  have w := pk_vw fr2 ar2 e2
  rw [hK] at w
  refine ⟨_, d, v, q, _, _, _, rfl, upd_same, rpart, w, isis_v w ts, ?_⟩
  exact h3 _ _ (got_bl fr ((g1.step.trans (g1.step.fr.stepA (upd_keep hq))).sub zl))
/-- a list just made, times an int -/
theorem sd_rep (hK : c.K = X.K) (ha : PE X a (tE c W fa)) (hb : PE X b (tE c W fb)) : PE X (.BinOp a .Mult b pos) (tE c W (rRep fa fb)) := by
  refine PE_imp (pe_op op_rep ha hb) fun σ H Q ⟨Z, S, fr, h⟩ => ?_
  refine tE_bind (post := fun r => PostE c W Z σ H S r Q) fr h (fun _ _ h => h) id fun x S1 h1 v H1 g1 => ?_
  refine tE_bind (post := fun r => PostE c W Z σ H S r Q) g1.step.fr h1 (fun i S' h => ExW.later h g1.step zl) id fun y S2 h2 u H2 g2 => ?_
  split at h2
  · rename_i ds j q
    split at h2
    · rename_i hz
      have a1 := g1.onto g2.step fun a z => z.elim .inl fun q => .inr (g2.new a q)
      obtain ⟨p, xs, e1, hp, r⟩ := a1
      have w := pk_vw g2.step.fr g2.ar q
      cases w.int
      refine ⟨p, j, xs, e1, rfl, hp, by omega, by omega, by rw [r.length, ← lineN_eq]; exact hz.2.2, fun a na => h2 _ _ (got_new fr (g1.step.trans g2.step) (fun a z => .inl (.inl z)) ⟨a, _, na, rfl, rfl, r.rep _⟩)⟩
    · exact h2.elim
  · exact h2.elim
theorem own_at {Z : Addr → Prop} {σ : Slots} {H : Hp} {S : FS} {i : Nat} {ds : List D} (fr : Fr c Z σ H S) (h : gt S i = some (.own ds)) : ∃ a xs, σ[i]? = some (some (.ref a)) ∧ H a = some (.lst xs) ∧ Rps c.K H (OO σ S Z) xs ds := by
  obtain ⟨u, e, a, xs, e1, ha, r⟩ := fr.rel i _ h
  subst e1
  exact ⟨a, xs, e, ha, r⟩
theorem pe_slot {i : Nat} {x : Str} (hN : X.N[i]? = some x) (hv : Vis X.env.scope x) (hd : (x == ("__debug__" : Str)) = false) (hcd : (x == ("__classdict__" : Str)) = false) : PE X (.Name x pos) (tVar i) := pe_var hN hv hd hcd
/-- the method's own end -/
theorem mth_end {m : Mth} {i : Nat} {Z : Addr → Prop} {σ : Slots} {H H1 : Hp} {S S1 S2 : FS} {vs : List V} {xs : List Arg} {as ds ds' : List D} {r : D} {l : Addr} {Q : VK} (fr : Fr c Z σ H S) (g1 : Gots c Z σ H S H1 S1 vs xs)
    (q1 : tks xs S1 = some (as, S2)) (q2 : gt S2 i = some (.own ds)) (q3 : mthD m ds as = some (r, ds')) (hl : σ[i]? = some (some (.ref l))) (h1 : PostE c W Z σ H S (.ok (.tmp (.val r)) (st S2 i (some (.own ds')))) Q) : rM c.K m (.ref l) vs H1 Q := by
  obtain ⟨st2, rv⟩ := g1.taken fr q1
  obtain ⟨l2, ls2, e1, e2, e3⟩ := own_at st2.fr q2
  rw [hl] at e1; cases e1
  refine ⟨_, l, ls2, ds, as, r, ds', rfl, e2, e3, rv, q3, fun v xs' r1 r2 => ?_⟩
  have w := st2.fr.write q2 hl e2 r2
  exact h1 _ _ (got_new fr (st2.trans w) (fun _ h => h) (.inl ⟨rfl, w.rp (fun _ z => .inl z) r1⟩))
theorem sd_mth0 {m : Mth} {i : Nat} {x : Str} (hK : c.K = X.K) (hN : X.N[i]? = some x) (hv : Vis X.env.scope x) (hd : (x == ("__debug__" : Str)) = false) (hcd : (x == ("__classdict__" : Str)) = false) (hl : (apos.endLine == cpos.line) = true) :
    PE X (.Call (.Attribute (.Name x p) (m.nm : Str) apos) [] [] cpos) (tE c W (rMth i m rNil)) := by
  refine PE_imp (pe_bm0 PySem.F.plainAttrs_list (mth_slot m) (mth_ty m) (mt_m m) (pe_slot hN hv hd hcd) rfl hl) fun σ H Q ⟨Z, S, fr, h⟩ => ?_
  unfold rMth at h
  split at h
  · rename_i hi
    obtain ⟨ds0, h0⟩ := isLst_iff hi
    obtain ⟨l, ls, e1, e2, e3⟩ := own_at fr h0
    refine ⟨.ref l, e1, .inl ⟨rfl, ls, .of e2⟩, ?_⟩
    have h : PostE c W Z σ H S (match gt S i with
      | some (.own (.lst ds)) => match mthD m ds [] with
        | some (r, ds') => .ok (.tmp (.val r)) (st S i (some (.own ds')))
        | none => .no
      | _ => .no) Q := h
    split at h
    · rename_i ds q2
      split at h
      · rename_i r ds' q3
        rw [← hK]
        exact mth_end fr (Gots.nil fr) rfl q2 q3 e1 h
      · exact h.elim
    · exact h.elim
  · exact h.elim
theorem sd_mth {m : Mth} {i : Nat} {x : Str} (hK : c.K = X.K) (hN : X.N[i]? = some x) (hv : Vis X.env.scope x) (hd : (x == ("__debug__" : Str)) = false) (hcd : (x == ("__classdict__" : Str)) = false) (hl : (apos.endLine == cpos.line) = true)
    (ha : PA X (e :: es) (tA c W fs)) (hn : ∀ x ∈ e :: es, NS x) (hfew : ((backTo cpos (starEach (e :: es) X.env)).all (fun x => !x.1) && (backToKw cpos (keywordEach [] X.env)).all (fun x => x.1.isSome)
      && decide ((e :: es).length + ([] : List Keyword).length + (if ([] : List Keyword).isEmpty then 0 else 1) < 30)) = true) :
    PE X (.Call (.Attribute (.Name x p) (m.nm : Str) apos) (e :: es) [] cpos) (tE c W (rMth i m fs)) := by
  refine PE_imp (pe_bm PySem.F.plainAttrs_list (mth_slot m) (mth_ty m) (mt_m m) (pe_slot hN hv hd hcd) ha rfl hfew hl (star_cons (hn e List.mem_cons_self)) (star_none fun x hx => hn x (List.mem_cons_of_mem _ hx))) fun σ H Q ⟨Z, S, fr, h⟩ => ?_
  unfold rMth at h
  split at h
  · rename_i hi
    obtain ⟨ds0, h0⟩ := isLst_iff hi
    obtain ⟨l, ls, e1, e2, e3⟩ := own_at fr h0
    refine ⟨.ref l, e1, .inl ⟨rfl, ls, .of e2⟩, ?_⟩
    refine tA_bind (post := fun r => PostE c W Z σ H S r Q) fr h (fun _ _ h => h) id fun xs S1 h1 vs H1 g1 => ?_
    split at h1
    · rename_i as S2 q1
      split at h1
      · rename_i ds q2
        split at h1
        · rename_i r ds' q3
          rw [← hK]
          exact mth_end fr g1 q1 q2 q3 e1 h1
        · exact h1.elim
      · exact h1.elim
    · exact h1.elim
  · exact h.elim
theorem sd_ext {i : Nat} {x : Str} (hK : c.K = X.K) (hN : X.N[i]? = some x) (hv : Vis X.env.scope x) (hd : (x == ("__debug__" : Str)) = false) (hcd : (x == ("__classdict__" : Str)) = false) (hl : (apos.endLine == cpos.line) = true)
    (ha : PE X e (tE c W fa)) (hn : NS e) (hfew : ((backTo cpos (starEach [e] X.env)).all (fun x => !x.1) && (backToKw cpos (keywordEach [] X.env)).all (fun x => x.1.isSome)
      && decide ([e].length + ([] : List Keyword).length + (if ([] : List Keyword).isEmpty then 0 else 1) < 30)) = true) :
    PE X (.Call (.Attribute (.Name x p) "extend" apos) [e] [] cpos) (tE c W (rExt i fa)) := by
  refine PE_imp (pe_bm PySem.F.plainAttrs_list PySem.F.slot_list_extend PySem.F.type_list_extend mt_extend (pe_slot hN hv hd hcd) (pa_cons ha pa_nil (star_cons hn)) rfl hfew hl (star_cons hn) rfl) fun σ H Q ⟨Z, S, fr, h⟩ => ?_
  unfold rExt at h
  split at h
  · rename_i hi
    obtain ⟨ds0, h0⟩ := isLst_iff hi
    obtain ⟨l, ls, e1, e2, e3⟩ := own_at fr h0
    refine ⟨.ref l, e1, .inl ⟨rfl, ls, .of e2⟩, ?_⟩
    refine tE_bind (post := fun r => PostE c W Z σ H S r Q) fr h (fun _ _ h => h) id fun x S1 h1 v H1 g1 => ?_
    have fin : ∀ {ds es : List D} {q : Addr} {ys : List V}, gt S1 i = some (.own ds) → v = .ref q → H1 q = some (.lst ys) → Rps c.K H1 (OO σ S1 Z) ys es → ds.length + es.length ≤ lineN → PostE c W Z σ H S (.ok (.tmp (.val .non)) (st S1 i (some (.own (ds ++ es))))) Q →
        rExtend (.ref l) [v] H1 Q := fun {ds es q ys} q1 ev hq r hz hp => by
      subst ev
      obtain ⟨l2, ls2, w1, w2, w3⟩ := own_at (g1.step.fr.sub zl) q1
      rw [e1] at w1; cases w1
      have w := (g1.step.fr.sub zl).write q1 e1 w2 (w3.append r)
      exact ⟨l, q, ls2, ys, rfl, rfl, w2, hq, by rw [w3.length, r.length, ← lineN_eq]; exact hz, hp _ _ (got_new fr ((g1.step.sub zl).trans w) (fun _ h => h) (.inl ⟨rfl, .non⟩))⟩
    have low : ∀ {ys : List V} {es : List D} {T : List Addr}, Rps c.K H1 (OO σ S1 (Zt Z T)) ys es → Rps c.K H1 (OO σ S1 Z) ys es := fun r => r.mono (fun _ _ e _ => e) fun a z => .inl (z.elim .inl fun q => .inr (.inl q))
    split at h1
    · rename_i es
      obtain ⟨q, ys, ev, hq, r⟩ := g1.ar
      split at h1
      · rename_i ds q1
        split at h1
        · rename_i hz
          exact fin q1 ev hq (low r) hz h1
        · exact h1.elim
      · exact h1.elim
    · rename_i j
      split at h1
      · exact h1.elim
      · split at h1
        · rename_i ds es q1 q2
          split at h1
          · rename_i hz
            have ej : σ[j]? = some (some v) := g1.ar
            obtain ⟨q, ys, w1, w2, w3⟩ := own_at (g1.step.fr) q2
            rw [ej] at w1; injection w1 with w1; injection w1 with w1
            exact fin q1 w1 w2 (low w3) hz h1
          · exact h1.elim
        · exact h1.elim
    · exact h1.elim
  · exact h.elim
end
end FL

set_option maxRecDepth 100000
set_option maxHeartbeats 4000000
/-! Statements. -/
namespace FL
open PySem PySem.Spec PyProof.Rows L2

inductive O where
  | nx (S : FS) | bk (S : FS) | ct (S : FS) | rt (r : Sv) (S : FS) | ex (k : Nat) (S : FS) | no
def R.toO {α : Type} (r : R α) (f : α → FS → O) : O := match r with
  | .ok a S => f a S
  | .ex k S => .ex k S
  | .no => .no
def O.bind (o : O) (f : FS → O) : O := match o with
  | .nx S => f S
  | o => o
abbrev FSt := FS → O

structure Ret (c : FCx) (Z : Addr → Prop) (σ : Slots) (H : Hp) (S : FS) (σ' : Slots) (H' : Hp) (S' : FS) (v : V) (r : Sv) : Prop where
  step : Step c (Zt Z (tmpA v (.tmp r))) σ H S σ' H' S'
  sr : SR c.K H' (OO σ' S' (Zt Z (tmpA v (.tmp r)))) v r
  new : ∀ a ∈ tmpA v (.tmp r), c.H0 a = none ∧ ¬ Z a
def PostS (c : FCx) (W : WX) (Z : Addr → Prop) (σ : Slots) (H : Hp) (S : FS) (o : O) (E : Ends) : Prop := match o with
  | .nx S' => ∀ σ' H', Step c Z σ H S σ' H' S' → E.nx σ' H'
  | .bk S' => ∀ σ' H', Step c Z σ H S σ' H' S' → E.bk σ' H'
  | .ct S' => ∀ σ' H', Step c Z σ H S σ' H' S' → E.ct σ' H'
  | .rt r S' => ∀ v σ' H', Ret c Z σ H S σ' H' S' v r → E.rt v H'
  | .ex k S' => ∀ σ' H', Step c Z σ H S σ' H' S' → W (.ref (c.cls k)) none σ' H'
  | .no => False
def tS (c : FCx) (W : WX) (f : FSt) : TS := fun E σ H => ∃ Z S, Fr c Z σ H S ∧ PostS c W Z σ H S (f S) E
theorem PS_imp {X : Cx} {e : Stmt} {t t' : TS} (h : PS X e t) (i : ∀ E σ H, t' E σ H → t E σ H) : PS X e t' := ⟨fun pins s σ H E I q => h.run pins s σ H E I (i E σ H q)⟩
theorem PSs_imp {X : Cx} {e : List Stmt} {t t' : TS} (h : PSs X e t) (i : ∀ E σ H, t' E σ H → t E σ H) : PSs X e t' := ⟨fun pins s σ H E I q => h.run pins s σ H E I (i E σ H q)⟩
theorem PG_imp {X : Cx} {e : Expr} {t t' : TG} (h : PG X e t) (i : ∀ v σ H Q, t' v σ H Q → t v σ H Q) : PG X e t' := ⟨fun pins s σ H v u Q I r q => h.run pins s σ H v u Q I r (i v σ H Q q)⟩

section
variable {c : FCx} {W : WX} {Z Z2 Z' : Addr → Prop} {σ σ1 σ2 : Slots} {H H' H1 H2 : Hp} {S S' S1 S2 : FS} {v : V} {x : Arg} {d : D} {E : Ends}
theorem Ret.after {r : Sv} (f : Step c Z2 σ H S σ1 H1 S1) (g : Ret c Z σ1 H1 S1 σ2 H2 S2 v r) : Ret c Z σ H S σ2 H2 S2 v r := ⟨f.trans g.step, g.sr, g.new⟩
theorem PostS.after {o : O} (f : Step c Z σ H S σ1 H1 S1) (h : PostS c W Z σ H S o E) : PostS c W Z σ1 H1 S1 o E := by
  cases o with
  | nx S' => exact fun σ' H' g => h σ' H' (f.trans g)
  | bk S' => exact fun σ' H' g => h σ' H' (f.trans g)
  | ct S' => exact fun σ' H' g => h σ' H' (f.trans g)
  | rt r S' => exact fun v σ' H' g => h v σ' H' (g.after f)
  | ex i S' => exact fun σ' H' g => h σ' H' (f.trans g)
  | no => exact h
theorem tE_toO {f : FE} {k : Arg → FS → O} {Q1 : VK} (fr : Fr c Z σ H S) (h : PostS c W Z σ H S ((f S).toO k) E)
    (hok : ∀ x S1, PostS c W Z σ H S (k x S1) E → ∀ v H1, Got c Z σ H S H1 S1 v x → Q1 v H1) : tE c W f σ H Q1 := by
  refine ⟨Z, S, fr, ?_⟩
  cases q : f S with
  | ok x S1 => rw [q] at h; exact hok x S1 h
  | ex i S1 => rw [q] at h; exact fun H' g => h σ H' g
  | no => rw [q] at h; exact h
theorem tA_toO {f : FA} {k : List Arg → FS → O} {Q1 : List V → Hp → Prop} (fr : Fr c Z σ H S) (h : PostS c W Z σ H S ((f S).toO k) E)
    (hok : ∀ x S1, PostS c W Z σ H S (k x S1) E → ∀ v H1, Gots c Z σ H S H1 S1 v x → Q1 v H1) : tA c W f σ H Q1 := by
  refine ⟨Z, S, fr, ?_⟩
  cases q : f S with
  | ok x S1 => rw [q] at h; exact hok x S1 h
  | ex i S1 => rw [q] at h; exact fun H' g => h σ H' g
  | no => rw [q] at h; exact h
theorem tT_toO {f : FT} {k : Bool → FS → O} {Q1 : Bool → Hp → Prop} (fr : Fr c Z σ H S) (h : PostS c W Z σ H S ((f S).toO k) E)
    (hok : ∀ x S1, PostS c W Z σ H S (k x S1) E → ∀ H1, Step c Z σ H S σ H1 S1 → Q1 x H1) : tT c W f σ H Q1 := by
  refine ⟨Z, S, fr, ?_⟩
  cases q : f S with
  | ok x S1 => rw [q] at h; exact hok x S1 h
  | ex i S1 => rw [q] at h; exact fun H' g => h σ H' g
  | no => rw [q] at h; exact h
/-- a value comes into a slot -/
theorem Fr.store {i : Nat} {sv : Sv} (f : Fr c Z2 σ H S) (sr : SR c.K H (OO σ S Z2) v sv) (hz : ∀ b, Z b → Z2 b ∧ b ∉ tmpA v (.tmp sv)) (hT : ∀ b ∈ tmpA v (.tmp sv), Z2 b ∧ c.H0 b = none ∧ ∀ j, c.lent j ≠ some b) (hl : c.lent i = none) (hi : i < S.length) :
    Fr c Z (σ.set i (some v)) H (st S i (some sv)) ∧ ∀ b, Own (σ.set i (some v)) (st S i (some sv)) b → Own σ S b ∨ b ∈ tmpA v (.tmp sv) := by
  have hσ : i < σ.length := by rw [f.len]; exact hi
  have ow : ∀ b j es, gt (st S i (some sv)) j = some (.own es) → (σ.set i (some v))[j]? = some (some (.ref b)) → (i = j ∧ b ∈ tmpA v (.tmp sv)) ∨ (i ≠ j ∧ gt S j = some (.own es) ∧ σ[j]? = some (some (.ref b))) := fun b j es h1 h2 => by
    rw [gt_st] at h1
    by_cases e : i = j
    · subst e
      rw [if_pos rfl, if_pos hi] at h1
      rw [List.getElem?_set_self hσ] at h2
      cases h1; cases h2
      exact .inl ⟨rfl, by simp [tmpA]⟩
    · rw [if_neg e] at h1
      rw [List.getElem?_set_ne e] at h2
      exact .inr ⟨e, h1, h2⟩
  have ow1 : ∀ b, Own (σ.set i (some v)) (st S i (some sv)) b → Own σ S b ∨ b ∈ tmpA v (.tmp sv) := fun b ⟨j, es, h1, h2⟩ => by
    rcases ow b j es h1 h2 with ⟨_, q⟩ | ⟨_, q1, q2⟩
    · exact .inr q
    · exact .inl ⟨j, es, q1, q2⟩
  have g : ∀ b, OO (σ.set i (some v)) (st S i (some sv)) Z b → OO σ S Z2 b ∨ H b = none := fun b z => by
    rcases z with z | z
    · exact (ow1 b z).elim (fun q => .inl (.inl q)) fun q => .inl (.inr (hT b q).1)
    · exact .inl (.inr (hz b z).1)
  refine ⟨⟨by rw [List.length_set, st_len]; exact f.len, fun j w hj => ?_, fun j k es es' b h1 h2 h3 h4 => ?_, fun b hb => ?_, f.keep, f.tr0, fun b z => f.ztr b (hz b z).1, fun j b hb => ?_⟩, ow1⟩
  · rw [gt_st] at hj
    by_cases e : i = j
    · subst e
      rw [if_pos rfl, if_pos hi] at hj
      cases hj
      exact ⟨v, List.getElem?_set_self hσ, sr.mono (fun _ _ e _ => e) g fun _ _ _ _ _ e => e⟩
    · rw [if_neg e] at hj
      obtain ⟨u, e1, r⟩ := f.rel j w hj
      exact ⟨u, by rw [List.getElem?_set_ne e]; exact e1, r.mono (fun _ _ e _ => e) g fun _ _ _ _ _ e => e⟩
  · rcases ow b j es h1 h3 with ⟨q, q'⟩ | ⟨q, q1, q2⟩ <;> rcases ow b k es' h2 h4 with ⟨p, p'⟩ | ⟨p, p1, p2⟩
    · rw [← q, ← p]
    · exact ((f.own b ⟨k, es', p1, p2⟩).2 (hT b q').1).elim
    · exact ((f.own b ⟨j, es, q1, q2⟩).2 (hT b p').1).elim
    · exact f.inj j k es es' b q1 p1 q2 p2
  · rcases ow1 b hb with q | q
    · exact ⟨(f.own b q).1, fun z => (f.own b q).2 (hz b z).1⟩
    · exact ⟨.inr (hT b q).2.1, fun z => (hz b z).2 q⟩
  · obtain ⟨h1, ⟨w, h2⟩, h3, h4⟩ := f.lnt j b hb
    have ne : i ≠ j := fun e => by subst e; rw [hl] at hb; cases hb
    refine ⟨by rw [List.getElem?_set_ne ne]; exact h1, ⟨w, by rw [gt_st, if_neg ne]; exact h2⟩, h3, fun k es q1 q2 => ?_⟩
    rcases ow b k es q1 q2 with ⟨_, q⟩ | ⟨_, p1, p2⟩
    · exact ((hT b q).2.2 j hb).elim
    · exact h4 k es p1 p2
end

/-! ### what is stored -/
def isL : List Bool → Nat → Bool
  | [], _ => false
  | b :: _, 0 => b
  | _ :: r, n + 1 => isL r n
structure LOk (c : FCx) (L : List Bool) : Prop where
  pin : ∀ i, isL L i = false → c.lent i = none
  all : ∀ a, c.L0 a → ∃ j, c.lent j = some a
  pos : ∀ i, isL L i = true → ∃ a, c.lent i = some a
/-- refs are taken, lists of their own stay so -/
def svs : FS → List Arg → Option (List Sv × FS)
  | S, [] => some ([], S)
  | S, .tmp s :: xs => (svs S xs).map fun p => (s :: p.1, p.2)
  | S, .ref i :: xs => (tk S (.ref i)).bind fun p => (svs p.2 xs).map fun q => (.val p.1 :: q.1, q.2)
def stAll (L : List Bool) : List Nat → List Sv → FS → Option FS
  | [], [], S => some S
  | i :: is, s :: ss, S => if isL L i = false ∧ i < S.length then stAll L is ss (st S i (some s)) else none
  | _, _, _ => none
def setAll : List Nat → List V → Slots → Slots
  | i :: is, v :: vs, σ => setAll is vs (σ.set i (some v))
  | _, _, σ => σ
inductive SRs (K : PySem.W.Frag) (H : Hp) (O : Addr → Prop) : List V → List Sv → Prop
  | nil : SRs K H O [] []
  | cons {v s vs ss} : SR K H O v s → SRs K H O vs ss → SRs K H O (v :: vs) (s :: ss)
def tmpS : List V → List Sv → List Addr
  | v :: vs, s :: ss => tmpA v (.tmp s) ++ tmpS vs ss
  | _, _ => []
section
variable {c : FCx} {W : WX} {Z Z2 Z' : Addr → Prop} {σ σ1 σ2 : Slots} {H H' H1 H2 : Hp} {S S' S1 S2 : FS} {v : V} {x : Arg} {d : D} {E : Ends}
theorem SRs.mono {K : PySem.W.Frag} {O O' : Addr → Prop} (k : ∀ a o, H a = some o → ¬ O a → H' a = some o) (g : ∀ a, O' a → O a ∨ H a = none) : ∀ {vs : List V} {ss : List Sv}, SRs K H O vs ss → (∀ a ∈ tmpS vs ss, ∀ o, H a = some o → H' a = some o) → SRs K H' O' vs ss
  | _, _, .nil, _ => .nil
  | _, _, .cons h r, ko => .cons (h.mono k g fun a ds xs e1 e2 e => by subst e1; subst e2; exact ko a (List.mem_append_left _ (by simp [tmpA])) _ e) (SRs.mono k g r fun a ha => ko a (List.mem_append_right _ ha))
theorem svs_step {T : List Addr} (f0 : Fr c Z σ H S) : ∀ {xs : List Arg} {vs : List V} {S2 : FS} {ss : List Sv} {S3 : FS}, Step c (Zt Z T) σ H S σ H2 S2 → ARs c (OO σ S2 (Zt Z T)) σ H2 vs xs →
    svs S2 xs = some (ss, S3) → Step c (Zt Z T) σ H S σ H2 S3 ∧ SRs c.K H2 (OO σ S3 (Zt Z T)) vs ss ∧ (∀ a, Own σ S3 a → Own σ S2 a) ∧ tmpS vs ss = tmpAs vs xs ∧ S3.length = S2.length
  | [], _, _, _, _, x1, .nil, h => by cases h; exact ⟨x1, .nil, fun _ h => h, rfl, rfl⟩
  | .tmp s :: xs, v :: vs, S2, ss, S3, x1, .cons a r, h => by
    simp only [svs, Option.map_eq_some_iff] at h
    obtain ⟨⟨ss', S4⟩, h1, h2⟩ := h
    cases h2
    obtain ⟨y, r2, ow, e, el⟩ := svs_step f0 x1 r h1
    have a : SR c.K H2 (OO σ S2 (Zt Z T)) v s := a
    exact ⟨y, .cons (a.mono (fun _ _ e _ => e) (fun b z => .inl (z.elim (fun q => .inl (ow b q)) .inr)) fun _ _ _ _ _ e => e) r2, ow, by simp only [tmpS, tmpAs, e], el⟩
  | .ref i :: xs, v :: vs, S2, ss, S3, x1, .cons a r, h => by
    simp only [svs, Option.map_eq_some_iff, Option.bind_eq_some_iff] at h
    obtain ⟨⟨d, S4⟩, q, ⟨ss', S5⟩, h1, h2⟩ := h
    cases h2
    have a : σ[i]? = some (some v) := a
    have key : Step c (Zt Z T) σ H S σ H2 S4 ∧ Rp c.K H2 (OO σ S4 (Zt Z T)) v d ∧ (∀ a, Own σ S4 a → Own σ S2 a) ∧ S4.length = S2.length := by
      simp only [tk] at q
      split at q
      · rename_i e q'
        cases q
        obtain ⟨u, e1, r1⟩ := x1.fr.rel i _ q'
        rw [a] at e1; cases e1
        exact ⟨x1, r1, fun _ h => h, rfl⟩
      · rename_i ds q'
        cases q
        obtain ⟨g, r1, ow⟩ := x1.fr.freeze q' a
        exact ⟨⟨g, x1.keep, fun b hb => x1.ow b (ow b hb), x1.tr⟩, r1, ow, st_len _ _ _⟩
      · cases q
    obtain ⟨y1, r1, ow1, l1⟩ := key
    have r' : ARs c (OO σ S4 (Zt Z T)) σ H2 vs xs := by
      clear h1
      induction r with
      | nil => exact .nil
      | cons a r ih => exact .cons (a.mono (fun _ _ e _ => e) (fun b z => .inl (z.elim (fun q => .inl (ow1 b q)) .inr)) fun _ _ _ e => e) ih
    obtain ⟨y, r2, ow, e, el⟩ := svs_step f0 y1 r' h1
    refine ⟨y, .cons (Rp.mono (fun _ _ e _ => e) (fun b z => .inl (z.elim (fun q => .inl (ow b q)) .inr)) r1) r2, fun b hb => ow1 b (ow b hb), ?_, el.trans l1⟩
    have t0 : tmpA v (.ref i) = [] := by cases v <;> rfl
    simp only [tmpS, tmpAs, e, t0, tmpA_val]
theorem stAll_step {L : List Bool} (hL : LOk c L) : ∀ {is : List Nat} {vs : List V} {ss : List Sv} {σ : Slots} {S S' : FS} {Z2 : Addr → Prop}, Fr c Z2 σ H S → SRs c.K H (OO σ S Z2) vs ss → (∀ b, Z b → Z2 b ∧ b ∉ tmpS vs ss) → (∀ b ∈ tmpS vs ss, Z2 b ∧ c.H0 b = none ∧ ∀ j, c.lent j ≠ some b) → (tmpS vs ss).Nodup →
    stAll L is ss S = some S' → Fr c Z (setAll is vs σ) H S' ∧ ∀ b, Own (setAll is vs σ) S' b → Own σ S b ∨ b ∈ tmpS vs ss
  | [], _, _, σ, S, S', Z2, f, .nil, hz, _, _, h => by
    cases h
    exact ⟨f.sub fun b z => (hz b z).1, fun b z => .inl z⟩
  | _ :: _, [], [], _, _, _, _, _, .nil, _, _, _, h => by simp [stAll] at h
  | i :: is, v :: vs, s :: ss, σ, S, S', Z2, f, .cons a r, hz, hT, nd, h => by
    simp only [stAll] at h
    split at h
    · rename_i hi
      have nd' := List.nodup_append.mp nd
      have m1 : ∀ b, b ∈ tmpA v (.tmp s) → b ∈ tmpS (v :: vs) (s :: ss) := fun b h => List.mem_append_left _ h
      have m2 : ∀ b, b ∈ tmpS vs ss → b ∈ tmpS (v :: vs) (s :: ss) := fun b h => List.mem_append_right _ h
      obtain ⟨f1, ow1⟩ := f.store (Z := fun b => Z2 b ∧ b ∉ tmpA v (.tmp s)) a (fun b z => z) (fun b hb => hT b (m1 b hb)) (hL.pin i hi.1) hi.2
      have g1 : ∀ b, OO (σ.set i (some v)) (st S i (some s)) (fun b => Z2 b ∧ b ∉ tmpA v (.tmp s)) b → OO σ S Z2 b ∨ H b = none := fun b z => by
        rcases z with z | z
        · exact (ow1 b z).elim (fun q => .inl (.inl q)) fun q => .inl (.inr (hT b (m1 b q)).1)
        · exact .inl (.inr z.1)
      obtain ⟨f2, ow2⟩ := stAll_step hL f1 (r.mono (fun _ _ e _ => e) g1 fun _ _ _ e => e) (fun b z => ⟨⟨(hz b z).1, fun q => (hz b z).2 (m1 b q)⟩, fun q => (hz b z).2 (m2 b q)⟩) (fun b hb => ⟨⟨(hT b (m2 b hb)).1, fun q => nd'.2.2 b q b hb rfl⟩, (hT b (m2 b hb)).2⟩) nd'.2.1 h
      refine ⟨f2, fun b hb => ?_⟩
      rcases ow2 b hb with q | q
      · rcases ow1 b q with q | q
        · exact .inl q
        · exact .inr (m1 b q)
      · exact .inr (m2 b q)
    · cases h
/-- args at hand come into slots -/
theorem Gots.stored {L : List Bool} (hL : LOk c L) {vs : List V} {xs : List Arg} {ss : List Sv} {is : List Nat} {S3 : FS} (fr : Fr c Z σ H S) (g : Gots c Z σ H S H1 S1 vs xs) (h1 : svs S1 xs = some (ss, S2)) (h2 : stAll L is ss S2 = some S3) : Step c Z σ H S (setAll is vs σ) H1 S3 := by
  obtain ⟨y, r, ow, e, _⟩ := svs_step fr g.step g.ar h1
  have hn : ∀ b ∈ tmpS vs ss, H b = none := fun b hb => g.new b (e ▸ hb)
  obtain ⟨f, ow2⟩ := stAll_step (Z := Z) hL y.fr r (fun b z => ⟨.inl z, fun q => fr.ztr b z (hn b q)⟩) (fun b hb => ⟨.inr (e ▸ hb), by
    cases q : c.H0 b with
    | none => rfl
    | some o => exact (fr.tr0 b (by rw [q]; intro z; cases z) (hn b hb)).elim, fun j hj => (fr.lnt j b hj).2.2.1 (hn b hb)⟩) (e ▸ g.nd) h2
  exact ⟨f, y.keep, fun b hb => (ow2 b hb).elim (y.ow b) fun q => .inr (hn b q), y.tr⟩
end
end FL

set_option maxRecDepth 100000
set_option maxHeartbeats 4000000
/-! Statements run. -/
namespace FL
open PySem PySem.Spec PyProof.Rows L2

def sSeq (f g : FSt) : FSt := fun S => (f S).bind g
def sNil : FSt := fun S => .nx S
def sExp (fa : FE) : FSt := fun S => (fa S).toO fun _ S1 => .nx S1
def sIf (t : FT) (f g : FSt) : FSt := fun S => (t S).toO fun b S1 => if b = true then f S1 else g S1
/-- names = args -/
def sPut (L : List Bool) (is : List Nat) (fs : FA) : FSt := fun S => (fs S).toO fun xs S1 => match svs S1 xs with
  | some (ss, S2) => match stAll L is ss S2 with
    | some S3 => .nx S3
    | none => .no
  | none => .no
def sSet (L : List Bool) (i : Nat) (fa : FE) : FSt := sPut L [i] (rCons fa rNil)
def sRet (L : List Bool) (fa : FE) : FSt := fun S => (fa S).toO fun x S1 => match x with
  | .tmp s => .rt s S1
  | .ref i => match gt S1 i with
    | some (.val d) => .rt (.val d) S1
    | some (.own b) => if isL L i = true then (match b with
      | .lst ds => .rt (.val (.lst ds)) (st S1 i (some (.val (.lst ds))))
      | _ => .no) else .rt (.own b) (st S1 i none)
    | none => .no
def sRetN : FSt := fun S => .rt (.val .non) S
def augD (o : BOp) (a : Int) : Option D → Option Int
  | some (.int b) => match o with
    | .add => some (a + b)
    | .sub => some (a - b)
    | _ => none
  | _ => none
def sAug (L : List Bool) (i : Nat) (o : BOp) (fa : FE) : FSt := fun S => match gt S i with
  | some (.val (.int a)) => (fa S).toO fun x S1 => match augD o a (pk S1 x) with
    | some r => if isL L i = false then .nx (st S1 i (some (.val (.int r)))) else .no
    | none => .no
  | _ => .no
/-- slot[e] = value -/
def sSub (i : Nat) (fi fa : FE) : FSt := fun S => (fa S).toO fun x S1 => if isLst S1 i = true then (fi S1).toO fun y S2 => match pk S2 y with
    | some (.int k) => match tk S2 x with
      | some (d, S3) => match gt S3 i with
        | some (.own (.lst ds)) => match ixN ds.length k with
          | some j => .nx (st S3 i (some (.own (ds.set j d))))
          | none => .no
        | _ => .no
      | none => .no
    | _ => .no
  else .no
def sWhile (t : FT) (f : FSt) : Nat → FSt
  | 0 => fun _ => .no
  | n + 1 => fun S => (t S).toO fun b S1 => if b = true then (match f S1 with
      | .nx S2 => sWhile t f n S2
      | .ct S2 => sWhile t f n S2
      | .bk S2 => .nx S2
      | o => o) else .nx S1

section
variable {X : Cx} {c : FCx} {W : WX} {a b e : Expr} {es : List Expr} {fa fb fi : FE} {fs : FA} {t : FT} {f g : FSt} {s : Stmt} {ss : List Stmt} {pos p : Pos} {L : List Bool}
theorem sd_snil : PSs X [] (tS c W sNil) := PSs_imp pss_nil fun E σ H ⟨Z, S, fr, h⟩ => h σ H fr.step
theorem sd_seq (h1 : PS X s (tS c W f)) (h2 : PSs X ss (tS c W g)) : PSs X (s :: ss) (tS c W (sSeq f g)) := by
  refine PSs_imp (pss_cons h1 h2) fun E σ H ⟨Z, S, fr, h⟩ => ?_
  refine ⟨Z, S, fr, ?_⟩
  unfold sSeq at h
  cases q : f S with
  | nx S1 => rw [q] at h; exact fun σ' H' st => ⟨Z, S1, st.fr, PostS.after st h⟩
  | bk S1 => rw [q] at h; exact h
  | ct S1 => rw [q] at h; exact h
  | rt r S1 => rw [q] at h; exact h
  | ex k S1 => rw [q] at h; exact h
  | no => rw [q] at h; exact h
theorem sd_pass : PS X (.Pass pos) (tS c W sNil) := PS_imp ps_pass fun E σ H ⟨Z, S, fr, h⟩ => h σ H fr.step
theorem sd_brk : PS X (.Break pos) (tS c W .bk) := PS_imp ps_break fun E σ H ⟨Z, S, fr, h⟩ => h σ H fr.step
theorem sd_cnt : PS X (.Continue pos) (tS c W .ct) := PS_imp ps_continue fun E σ H ⟨Z, S, fr, h⟩ => h σ H fr.step
theorem sd_doc {x : Str} {j : Nat} {pos' : Pos} : PS X (.Expr (.Constant (.str x) j pos) pos') (tS c W sNil) := PS_imp ps_doc fun E σ H ⟨Z, S, fr, h⟩ => h σ H fr.step
theorem sd_exp (ha : PE X e (tE c W fa)) (hs : swapsWith e none pos.line X.env = pure false) : PS X (.Expr e pos) (tS c W (sExp fa)) := by
  refine PS_imp (ps_expr ha hs) fun E σ H ⟨Z, S, fr, h⟩ => ?_
  exact tE_toO fr h fun x S1 h1 v H1 g1 => h1 σ H1 (g1.step.sub zl)
theorem sd_if {A B : List Stmt} (hc : PT X a (tT c W t)) (h1 : PSs X A (tS c W f)) (h2 : PSs X B (tS c W g)) : PS X (.If a A B pos) (tS c W (sIf t f g)) := by
  refine PS_imp (ps_if hc h1 h2) fun E σ H ⟨Z, S, fr, h⟩ => ?_
  refine tT_toO fr h fun x S1 h1 H1 g1 => ?_
  cases x with
  | true => exact ⟨Z, S1, g1.fr, PostS.after g1 h1⟩
  | false => exact ⟨Z, S1, g1.fr, PostS.after g1 h1⟩
theorem Got.one {Z : Addr → Prop} {σ : Slots} {H H' : Hp} {S S' : FS} {v : V} {x : Arg} (g : Got c Z σ H S H' S' v x) : Gots c Z σ H S H' S' [v] [x] := by
  have := Gots.cons g (Gots.nil g.step.fr)
  exact this
/-- name = e, from any reading of e -/
theorem set_go {E : Ends} {i : Nat} {σ : Slots} {H : Hp} (hL : LOk c L) (h : tS c W (sSet L i fa) E σ H) : tE c W fa σ H fun x H1 => gName i x σ H1 E.nx := by
  obtain ⟨Z, S, fr, h⟩ := h
  have h : PostS c W Z σ H S ((fa S).toO fun x S1 => match svs S1 [x] with
      | some (ss, S2) => match stAll L [i] ss S2 with
        | some S3 => .nx S3
        | none => .no
      | none => .no) E := by
    unfold sSet sPut rCons at h
    cases q : fa S <;> (rw [q] at h; exact h)
  refine tE_toO fr h fun x S1 h1 v H1 g1 => ?_
  split at h1
  · rename_i ss S2 q1
    split at h1
    · rename_i S3 q2
      exact h1 _ _ (g1.one.stored hL fr q1 q2)
    · exact h1.elim
  · exact h1.elim
theorem sd_set {i : Nat} {x : Str} (hL : LOk c L) (hN : X.N.Nodup) (hi : X.N[i]? = some x) (hx : Loc X.env.scope x) (ha : PE X e (tE c W fa)) (hs : swapsWith e (some (.Name x p)) pos.line X.env = pure false) (hf : X.fn x = true ∨ X.env.scope.names.lookup x = some .local) :
    PS X (.Assign [.Name x p] e pos) (tS c W (sSet L i fa)) :=
  PS_imp (ps_set hN hi hx ha hs hf) fun E σ H h => set_go hL h
/-- a, b = x, y -/
theorem put_go {E : Ends} {is : List Nat} {σ : Slots} {H : Hp} (hL : LOk c L) (h : tS c W (sPut L is fs) E σ H) : tA c W fs σ H fun vs H1 => E.nx (setAll is vs σ) H1 ∧ vs.length = is.length ∧ ∀ p, H1 p = none → E.nx (setAll is vs σ) (upd H1 p (.tup vs)) := by
  obtain ⟨Z, S, fr, h⟩ := h
  refine tA_toO fr h fun xs S1 h1 vs H1 g1 => ?_
  split at h1
  · rename_i ss S2 q1
    split at h1
    · rename_i S3 q2
      have st := g1.stored hL fr q1 q2
      have ln : vs.length = is.length := by
        have e1 : ∀ {is : List Nat} {ss : List Sv} {S S' : FS}, stAll L is ss S = some S' → is.length = ss.length := by
          intro is
          induction is with
          | nil => intro ss S S' h; cases ss with
            | nil => rfl
            | cons => simp [stAll] at h
          | cons i is ih => intro ss S S' h; cases ss with
            | nil => simp [stAll] at h
            | cons s ss =>
              simp only [stAll] at h
              split at h
              · rw [List.length_cons, List.length_cons, ih h]
              · cases h
        obtain ⟨_, r, _, _, _⟩ := svs_step fr g1.step g1.ar q1
        have e2' : ∀ {O : Addr → Prop} {vs : List V} {ss : List Sv}, SRs c.K H1 O vs ss → vs.length = ss.length := by
          intro O vs ss h
          induction h with
          | nil => rfl
          | cons _ _ ih => rw [List.length_cons, List.length_cons, ih]
        rw [e1 q2, e2' r]
      exact ⟨h1 _ _ st, ln, fun p hp => h1 _ _ (st.trans (st.fr.stepA (upd_keep hp)))⟩
    · exact h1.elim
  · exact h1.elim
theorem sd_par2 {i j : Nat} {x y : Str} {px py pt : Pos} {kt k2 : Nat} {pt2 : Pos} (hL : LOk c L) (hc : X.calm = true) (hN : X.N.Nodup) (hi : X.N[i]? = some x) (hj : X.N[j]? = some y) (hij : i ≠ j)
    (hx : X.env.scope.names.lookup x = some .local) (hy : X.env.scope.names.lookup y = some .local) (ha : PA X [a, b] (tA c W fs))
    (hw : swappedStores [.Tuple [.Name x px, .Name y py] kt pt] (.Tuple [a, b] k2 pt2) X.env = pure (some [x, y])) :
    PS X (.Assign [.Tuple [.Name x px, .Name y py] kt pt] (.Tuple [a, b] k2 pt2) pos) (tS c W (sPut L [i, j] fs)) := by
  refine PS_imp (ps_par hc hN hi hj hij hx hy ha hw) fun E σ H h => ?_
  refine tA_mono (put_go hL h) fun vs H1 ⟨q, ln, _⟩ => ?_
  match vs, ln with
  | [v, w], _ => exact ⟨v, w, rfl, q⟩
theorem sd_par3 {i j l : Nat} {x y z : Str} {px py pz pt : Pos} {kt k2 : Nat} {pt2 : Pos} {d : Expr} (hL : LOk c L) (hc : X.calm = true) (hN : X.N.Nodup) (hi : X.N[i]? = some x) (hj : X.N[j]? = some y) (hl : X.N[l]? = some z) (hij : i ≠ j) (hil : i ≠ l) (hjl : j ≠ l)
    (hx : X.env.scope.names.lookup x = some .local) (hy : X.env.scope.names.lookup y = some .local) (hz : X.env.scope.names.lookup z = some .local) (ha : PA X [a, b, d] (tA c W fs))
    (hw : swappedStores [.Tuple [.Name x px, .Name y py, .Name z pz] kt pt] (.Tuple [a, b, d] k2 pt2) X.env = pure (some [x, y, z])) :
    PS X (.Assign [.Tuple [.Name x px, .Name y py, .Name z pz] kt pt] (.Tuple [a, b, d] k2 pt2) pos) (tS c W (sPut L [i, j, l] fs)) := by
  refine PS_imp (ps_par3 hc hN hi hj hl hij hil hjl hx hy hz ha hw) fun E σ H h => ?_
  refine tA_mono (put_go hL h) fun vs H1 ⟨q, ln, _⟩ => ?_
  match vs, ln with
  | [u, v, w], _ => exact ⟨u, v, w, rfl, q⟩
/-- targets that are names, from the left -/
def gNames (is : List Nat) : TGs := fun vs σ H Q => vs.length = is.length ∧ Q (setAll is vs σ) H
theorem pgs_names (hN : X.N.Nodup) : ∀ {is : List Nat} {ts : List Expr}, Paired (fun (i : Nat) (t : Expr) => ∃ x q, t = .Name x q ∧ X.N[i]? = some x ∧ Loc X.env.scope x ∧ (X.fn x = true ∨ X.env.scope.names.lookup x = some .local)) is ts → PGs X ts (gNames is)
  | _, _, .nil => by
    refine ⟨fun pins s σ H vs us Q I r h => pgs_nil.run pins s σ H vs us Q I r ?_⟩
    obtain ⟨h1, h2⟩ := h
    cases vs with
    | nil => exact ⟨rfl, h2⟩
    | cons => cases h1
  | i :: is, t :: ts, .cons ⟨x, q, e, h1, h2, h3⟩ r => by
    subst e
    refine ⟨fun pins s σ H vs us Q I rv h => (pgs_cons (pg_name hN h1 h2 h3) (pgs_names hN r)).run pins s σ H vs us Q I rv ?_⟩
    obtain ⟨h4, h5⟩ := h
    cases vs with
    | nil => cases h4
    | cons v vs => exact ⟨v, vs, rfl, by simpa using h4, h5⟩
theorem each_names {env : Env} : ∀ {is : List Nat} {ts : List Expr} {F : Nat → Expr → Prop}, Paired F is ts → (∀ i t, F i t → ∃ x q, t = .Name x q) → (assignEach ts env).length = is.length ∧ (assignEach ts env).findIdx? (·.1) = none
  | _, _, _, .nil, _ => ⟨rfl, rfl⟩
  | i :: is, t :: ts, F, .cons h r, k => by
    obtain ⟨x, q, e⟩ := k i t h
    subst e
    obtain ⟨h1, h2⟩ := each_names (env := env) r k
    refine ⟨?_, ?_⟩
    · show (assignEach ts env).length + 1 = is.length + 1
      rw [h1]
    · show List.findIdx? (·.1) ((false, assign (.Name x q) env) :: assignEach ts env) = none
      rw [List.findIdx?_cons, h2]
      rfl
/-- .. where the tuple is made and taken apart -/
theorem sd_parT {is : List Nat} {ts : List Expr} {kt k2 : Nat} {pt pt2 : Pos} (hL : LOk c L) (hc : X.calm = true) (hN : X.N.Nodup)
    (hn : Paired (fun (i : Nat) (t : Expr) => ∃ x q, t = .Name x q ∧ X.N[i]? = some x ∧ Loc X.env.scope x ∧ (X.fn x = true ∨ X.env.scope.names.lookup x = some .local)) is ts) (hz : is.length ≤ 100) (ha : PA X es (tA c W fs))
    (hw : swappedStores [.Tuple ts kt pt] (.Tuple es k2 pt2) X.env = pure none) :
    PS X (.Assign [.Tuple ts kt pt] (.Tuple es k2 pt2) pos) (tS c W (sPut L is fs)) := by
  obtain ⟨l1, l2⟩ := each_names (env := X.env) hn fun i t ⟨x, q, e, _⟩ => ⟨x, q, e⟩
  refine PS_imp (ps_asg (pe_tup ha) (pg_tup hc (pgs_names hN hn) l1 l2) rfl hw) fun E σ H h => ?_
  refine tA_mono (put_go hL h) fun vs H1 ⟨_, ln, q⟩ => ⟨Nat.le_trans (by omega) (show 100 ≤ sizeLine by rw [sizeLine_eq]; decide), fun p hp => ⟨p, vs, rfl, .of upd_same, by rw [ln], ln, q p hp⟩⟩
theorem sd_ret (hL : LOk c L) (ha : PE X e (tE c W fa)) : PS X (.Return (some e) pos) (tS c W (sRet L fa)) := by
  refine PS_imp (ps_ret ha) fun E σ H ⟨Z, S, fr, h⟩ => ?_
  refine tE_toO fr h fun x S1 h1 v H1 g1 => ?_
  cases x with
  | tmp r =>
    exact h1 v σ H1 ⟨g1.step, g1.ar, fun a ha => ⟨by
      have hn := g1.new a ha
      cases q : c.H0 a with
      | none => rfl
      | some o => exact (fr.tr0 a (by rw [q]; intro z; cases z) hn).elim, fun z => fr.ztr a z (g1.new a ha)⟩⟩
  | ref i =>
    have e : σ[i]? = some (some v) := g1.ar
    have t0 : tmpA v (.ref i) = [] := by cases v <;> rfl
    have s0 : Step c Z σ H S σ H1 S1 := g1.step.sub zl
    have h1 : PostS c W Z σ H S (match gt S1 i with
      | some (.val d) => .rt (.val d) S1
      | some (.own b) => if isL L i = true then (match b with
        | .lst ds => .rt (.val (.lst ds)) (st S1 i (some (.val (.lst ds))))
        | _ => .no) else .rt (.own b) (st S1 i none)
      | none => .no) E := h1
    have vz : ∀ (d : D) a, Zt Z (tmpA v (.tmp (.val d))) a → Z a := fun d a z => by rw [tmpA_val] at z; exact Zt.nil z
    have vo : ∀ (d : D) (S : FS) a, OO σ S (Zt Z (tmpA v (.tmp (.val d)))) a → OO σ S Z a ∨ H1 a = none := fun d S a z => .inl (z.elim .inl fun q => .inr (vz d a q))
    split at h1
    · rename_i d q
      obtain ⟨u, e1, r⟩ := s0.fr.rel i _ q
      rw [e] at e1; cases e1
      exact h1 v σ H1 ⟨s0.sub (vz d), Rp.mono (fun _ _ e _ => e) (vo d S1) r, fun a ha => by rw [tmpA_val] at ha; cases ha⟩
    · rename_i ds q
      split at h1
      · cases ds with
        | dk _ => exact h1.elim
        | dt _ => exact h1.elim
        | lst ds =>
        obtain ⟨g, r, ow⟩ := s0.fr.freeze q e
        exact h1 v σ H1 ⟨(⟨g, s0.keep, fun b hb => s0.ow b (ow b hb), s0.tr⟩ : Step c Z σ H S σ H1 _).sub (vz _), Rp.mono (fun _ _ e _ => e) (vo _ _) r, fun a ha => by rw [tmpA_val] at ha; cases ha⟩
      · rename_i hl
        obtain ⟨u, e1, r0⟩ := s0.fr.rel i _ q
        obtain ⟨p, o, e2, hp, r⟩ := r0.own_at
        rw [e] at e1
        have e3 : v = .ref p := by injection e1 with e1; injection e1 with e1; rw [e1, e2]
        subst e3
        have f := s0.fr
        have op : Own σ S1 p := ⟨i, ds, q, e⟩
        have hi := gt_lt q
        have tp : tmpA (.ref p) (.tmp (.own ds)) = [p] := rfl
        have ow : ∀ b, Own σ (st S1 i none) b → Own σ S1 b ∧ b ≠ p := fun b ⟨j, es, h1, h2⟩ => by
          rw [gt_st] at h1
          by_cases hj : i = j
          · rw [if_pos hj, if_pos hi] at h1; cases h1
          · rw [if_neg hj] at h1
            refine ⟨⟨j, es, h1, h2⟩, fun z => ?_⟩
            subst z
            exact hj (f.inj i j ds es _ q h1 e h2)
        have g : ∀ b, OO σ (st S1 i none) (Zt Z [p]) b → OO σ S1 Z b ∨ H1 b = none := fun b z => by
          rcases z with z | z | z
          · exact .inl (.inl (ow b z).1)
          · exact .inl (.inr z)
          · have : b = p := by simpa using z
            subst this; exact .inl (.inl op)
        have lf : c.lent i = none := hL.pin i (by cases h : isL L i with
          | false => rfl
          | true => exact (hl h).elim)
        have fr' : Fr c (Zt Z [p]) σ H1 (st S1 i none) := ⟨by rw [st_len]; exact f.len, fun j sv hj => by
            rw [gt_st] at hj
            by_cases e : i = j
            · rw [if_pos e, if_pos hi] at hj; cases hj
            · rw [if_neg e] at hj
              obtain ⟨w, e1, rw'⟩ := f.rel j sv hj
              exact ⟨w, e1, rw'.mono (fun _ _ e _ => e) g fun _ _ _ _ _ e => e⟩, fun j k es es' b h1 h2 h3 h4 => by
            rw [gt_st] at h1 h2
            by_cases e1 : i = j
            · rw [if_pos e1, if_pos hi] at h1; cases h1
            · by_cases e2 : i = k
              · rw [if_pos e2, if_pos hi] at h2; cases h2
              · rw [if_neg e1] at h1; rw [if_neg e2] at h2
                exact f.inj j k es es' b h1 h2 h3 h4, fun b hb => ⟨(f.own b (ow b hb).1).1, fun z => by
              rcases z with z | z
              · exact (f.own b (ow b hb).1).2 z
              · exact (ow b hb).2 (by simpa using z)⟩, f.keep, f.tr0, fun b z => by
            rcases z with z | z
            · exact f.ztr b z
            · have : b = p := by simpa using z
              subst this
              rw [hp]; exact fun z => (nomatch z), fun j b hb => by
            obtain ⟨h1, ⟨w, h2⟩, h3, h4⟩ := f.lnt j b hb
            have ne : i ≠ j := fun e => by subst e; rw [lf] at hb; cases hb
            refine ⟨h1, ⟨w, by rw [gt_st, if_neg ne]; exact h2⟩, h3, fun k es q1 q2 => ?_⟩
            rw [gt_st] at q1
            by_cases e : i = k
            · rw [if_pos e, if_pos hi] at q1; cases q1
            · rw [if_neg e] at q1; exact h4 k es q1 q2⟩
        exact h1 _ σ H1 ⟨⟨fr', s0.keep, fun b hb => s0.ow b (ow b hb).1, s0.tr⟩, r.mono (fun _ _ e _ => e) g fun _ _ _ _ _ e => e, fun a ha => by
          have : a = p := by simpa [tmpA] using ha
          subst this
          refine ⟨(f.own a op).1.resolve_left fun z => ?_, (f.own a op).2⟩
          obtain ⟨j, hj⟩ := hL.all a z
          have := (f.lnt j a hj).2.2.2 i ds q e
          subst this
          rw [lf] at hj; cases hj⟩
    · exact h1.elim
theorem sd_retN : PS X (.Return none pos) (tS c W sRetN) := by
  refine PS_imp ps_retN fun E σ H ⟨Z, S, fr, h⟩ => ?_
  exact h .non σ H ⟨fr.step.sub fun _ z => Zt.nil z, .non, fun _ z => nomatch z⟩
end
end FL

set_option maxRecDepth 100000
set_option maxHeartbeats 4000000
/-! Stores into lists, whiles, targets, what a loop walks, loops. -/
namespace FL
open PySem PySem.Spec PyProof.Rows L2

section
variable {X : Cx} {c : FCx} {W : WX} {a b e : Expr} {es : List Expr} {fa fb fi : FE} {fs : FA} {t : FT} {f g : FSt} {s : Stmt} {ss : List Stmt} {pos p : Pos} {L : List Bool}
theorem sd_aug {i : Nat} {x : Str} {o : BOp} (hL : LOk c L) (hN : X.N.Nodup) (hi : X.N[i]? = some x) (hx : Loc X.env.scope x) (ha : PE X e (tE c W fa)) (ho : o = .add ∨ o = .sub) (hf : X.fn x = true ∨ X.env.scope.names.lookup x = some .local) :
    PS X (.AugAssign (.Name x p) o.py e pos) (tS c W (sAug L i o fa)) := by
  have go : ∀ {ti : TIp}, (∀ i j r H Q, augD o i (some (.int j)) = some r → Q (.int r) H → ti (.int i) (.int j) H Q) → ∀ E σ H, tS c W (sAug L i o fa) E σ H → tAug i (tE c W fa) ti E σ H := by
    intro ti hk E σ H ⟨Z, S, fr, h⟩
    unfold sAug at h
    split at h
    · rename_i a0 q
      obtain ⟨u, e1, r⟩ := fr.rel i _ q
      have eu : u = .int a0 := by cases r; rfl
      subst eu
      refine ⟨.int a0, e1, ?_⟩
      refine tE_toO fr h fun x S1 h1 v H1 g1 => ?_
      split at h1
      · rename_i r0 q1
        split at h1
        · rename_i hl
          cases q2 : pk S1 x with
          | none => rw [q2] at q1; cases q1
          | some d =>
            rw [q2] at q1
            cases d with
            | int b0 =>
              have w := pk_vw g1.step.fr g1.ar q2
              cases w.int
              refine hk _ _ _ _ _ q1 ?_
              have s0 := g1.step.sub (Z := Z) zl
              have hi' : i < S1.length := by rw [← s0.fr.len, fr.len]; exact gt_lt q
              obtain ⟨f', ow⟩ := s0.fr.store (Z := Z) (sv := .val (.int r0)) (v := .int r0) (.int _) (fun b z => ⟨z, by rw [tmpA_val]; exact fun z => nomatch z⟩) (fun b z => by rw [tmpA_val] at z; cases z) (hL.pin i hl) hi'
              exact h1 _ _ (s0.trans ⟨f', fun _ _ e _ => e, fun b z => (ow b z).elim .inl fun q => (by rw [tmpA_val] at q; cases q), fun _ h => h⟩)
            | _ => cases q1
        · exact h1.elim
      · exact h1.elim
    · exact h.elim
  rcases ho with rfl | rfl
  · exact PS_imp (ps_aug hN hi hx ha ip_add hf) (go fun i j r H Q e q => by cases e; exact ⟨i, j, rfl, rfl, q⟩)
  · exact PS_imp (ps_aug hN hi hx ha ip_sub hf) (go fun i j r H Q e q => by cases e; exact ⟨i, j, rfl, rfl, q⟩)
theorem tE_toO2 {Z Z2 : Addr → Prop} {σ : Slots} {H H1 : Hp} {S S1 : FS} {E : Ends} {k : Arg → FS → O} {Q1 : VK} (x0 : Step c Z2 σ H S σ H1 S1) (hZ : ∀ a, Z a → Z2 a) (h : PostS c W Z σ H S ((fa S1).toO k) E)
    (hok : ∀ x S2, PostS c W Z σ H S (k x S2) E → ∀ v H2, Got c Z2 σ H1 S1 H2 S2 v x → Q1 v H2) : tE c W fa σ H1 Q1 := by
  refine ⟨Z2, S1, x0.fr, ?_⟩
  cases q : fa S1 with
  | ok x S2 => rw [q] at h; exact hok x S2 h
  | ex i S2 => rw [q] at h; exact fun H' g => h σ H' ((x0.trans g).sub hZ)
  | no => rw [q] at h; exact h
theorem sd_sub {i : Nat} {x : Str} (hN : X.N[i]? = some x) (hv : Vis X.env.scope x) (hd : (x == ("__debug__" : Str)) = false) (hcd : (x == ("__classdict__" : Str)) = false) (hi : PE X b (tE c W fi)) (ha : PE X e (tE c W fa)) {p2 : Pos}
    (has : ∀ v, assign (.Subscript (.Name x p) b p2) X.env v = (do
      let ov ← holding [v] (eval (.Name x p) X.env)
      let iv ← holding [v, ov] (eval b X.env)
      standAt p2
      holding [v, ov, iv] (setItem ov iv v)
      release [v, ov, iv] [])) (h1 : swapsWithSole [.Subscript (.Name x p) b p2] e pos.line X.env = pure false) (h2 : swappedStores [.Subscript (.Name x p) b p2] e X.env = pure none) :
    PS X (.Assign [.Subscript (.Name x p) b p2] e pos) (tS c W (sSub i fi fa)) := by
  refine PS_imp (ps_asg ha (pg_sub (pe_slot hN hv hd hcd) hi set_list has) h1 h2 rfl) fun E σ H ⟨Z, S, fr, h⟩ => ?_
  refine tE_toO fr h fun x S1 h1 v H1 g1 => ?_
  split at h1
  · rename_i q1
    obtain ⟨ds1, q1⟩ := isLst_iff q1
    obtain ⟨l, ls, e1, e2, e3⟩ := own_at g1.step.fr q1
    refine ⟨.ref l, e1, ?_⟩
    refine tE_toO2 g1.step zl h1 fun y S2 h2 u H2 g2 => ?_
    split at h2
    · rename_i k q2
      split at h2
      · rename_i d S3 q3
        split at h2
        · rename_i ds q4
          split at h2
          · rename_i j q5
            have w := pk_vw g2.step.fr g2.ar q2
            cases w.int
            have s2 : Step c (Zt Z (tmpA v x)) σ H S σ H2 S2 := g1.step.trans (g2.step.sub zl)
            have a2 := g1.onto (g2.step.sub (Z := Zt Z (tmpA v x)) zl) fun a z => .inl z
            obtain ⟨s3, rd⟩ := tk_step fr s2 a2 g1.new (fun _ h => h) q3
            have s3' := s3.sub (Z := Z) zl
            obtain ⟨l2, ls2, w1, w2, w3⟩ := own_at s3'.fr q4
            rw [e1] at w1; cases w1
            refine ⟨l, ls2, k, j, rfl, rfl, w2, by rw [w3.length]; exact q5, ?_⟩
            have wr := s3'.fr.write q4 e1 w2 (w3.set rd j)
            exact h2 _ _ (s3'.trans wr)
          · exact h2.elim
        · exact h2.elim
      · exact h2.elim
    · exact h2.elim
  · exact h1.elim

/-! ### while -/
theorem sd_while {body : List Stmt} (hp : PassesOwn (model X.prog X.w) X.A X.env X.xe) (hc : PT X a (tT c W t)) (hb : PSs X body (tS c W f)) (n : Nat) : PS X (.While a body [] pos) (tS c W (sWhile t f n)) := by
  refine PS_imp (ps_while hp hc hb) fun E σ H ⟨Z, S, fr, h⟩ => ?_
  refine ⟨fun m σ' H' => ∃ S', Step c Z σ H S σ' H' S' ∧ PostS c W Z σ H S (sWhile t f m S') E, ⟨n, S, fr.step, h⟩, ?_⟩
  rintro m σ1 H1 ⟨S1, st1, h1⟩
  cases m with
  | zero => exact h1.elim
  | succ m =>
    have h1 : PostS c W Z σ H S ((t S1).toO fun b S1 => if b = true then (match f S1 with
      | .nx S2 => sWhile t f m S2
      | .ct S2 => sWhile t f m S2
      | .bk S2 => .nx S2
      | o => o) else .nx S1) E := h1
    refine ⟨Z, S1, st1.fr, ?_⟩
    cases q : t S1 with
    | no => rw [q] at h1; exact h1.elim
    | ex i S2 => rw [q] at h1; exact fun H' g => h1 σ1 H' (st1.trans g)
    | ok b S2 =>
      rw [q] at h1
      intro H2 st2
      have s12 := st1.trans st2
      cases b with
      | false =>
        rw [if_neg Bool.false_ne_true]
        exact h1 σ1 H2 s12
      | true =>
        rw [if_pos rfl]
        have h1 : PostS c W Z σ H S (match f S2 with
          | .nx S2 => sWhile t f m S2
          | .ct S2 => sWhile t f m S2
          | .bk S2 => .nx S2
          | o => o) E := h1
        refine ⟨fun σ' H' => ∃ S', Step c Z σ H S σ' H' S' ∧ PostS c W Z σ H S (sWhile t f m S') E, fun σ' H' ⟨S', x, y⟩ => ⟨m, Nat.lt_succ_self m, S', x, y⟩, Z, S2, s12.fr, ?_⟩
        cases q2 : f S2 with
        | nx S3 => rw [q2] at h1; exact fun σ' H' st => ⟨S3, s12.trans st, h1⟩
        | ct S3 => rw [q2] at h1; exact fun σ' H' st => ⟨S3, s12.trans st, h1⟩
        | bk S3 => rw [q2] at h1; exact fun σ' H' st => h1 σ' H' (s12.trans st)
        | rt r S3 => rw [q2] at h1; exact fun v σ' H' st => h1 v σ' H' (st.after s12)
        | ex k S3 => rw [q2] at h1; exact fun σ' H' st => h1 σ' H' (s12.trans st)
        | no => rw [q2] at h1; exact h1
end

/-! ### targets -/
inductive Tg where
  | nm (i : Nat) | tp (ts : List Tg)
mutual
def asg (L : List Bool) : Tg → D → FS → Option FS
  | .nm i, d, S => if isL L i = false ∧ i < S.length then some (st S i (some (.val d))) else none
  | .tp ts, .tup ds, S => asgs L ts ds S
  | .tp _, _, _ => none
def asgs (L : List Bool) : List Tg → List D → FS → Option FS
  | [], [], S => some S
  | t :: ts, d :: ds, S => (asg L t d S).bind fun S1 => asgs L ts ds S1
  | _, _, _ => none
end
mutual
def Tg.slots : Tg → List Nat
  | .nm i => [i]
  | .tp ts => Tg.slotss ts
def Tg.slotss : List Tg → List Nat
  | [] => []
  | t :: ts => t.slots ++ Tg.slotss ts
end
def tG (c : FCx) (f : D → FS → Option FS) (is : List Nat) : TG := fun v σ H Q => ∃ Z S d S', Fr c Z σ H S ∧ Rp c.K H (OO σ S Z) v d ∧ f d S = some S' ∧ ∀ σ', Step c Z σ H S σ' H S' → (∀ j, j ∉ is → σ'[j]? = σ[j]?) → Q σ' H
def tGs (c : FCx) (f : List D → FS → Option FS) (is : List Nat) : TGs := fun vs σ H Q => ∃ Z S ds S', Fr c Z σ H S ∧ Rps c.K H (OO σ S Z) vs ds ∧ f ds S = some S' ∧ ∀ σ', Step c Z σ H S σ' H S' → (∀ j, j ∉ is → σ'[j]? = σ[j]?) → Q σ' H
theorem PGs_imp {X : Cx} {e : List Expr} {t t' : TGs} (h : PGs X e t) (i : ∀ v σ H Q, t' v σ H Q → t v σ H Q) : PGs X e t' := ⟨fun pins s σ H v u Q I r q => h.run pins s σ H v u Q I r (i v σ H Q q)⟩
section
variable {X : Cx} {c : FCx} {W : WX} {L : List Bool} {pos p : Pos}
theorem sd_nm {i : Nat} {x : Str} (hL : LOk c L) (hN : X.N.Nodup) (hi : X.N[i]? = some x) (hx : Loc X.env.scope x) (hf : X.fn x = true ∨ X.env.scope.names.lookup x = some .local) : PG X (.Name x p) (tG c (asg L (.nm i)) (Tg.nm i).slots) := by
  refine PG_imp (pg_name hN hi hx hf) fun v σ H Q ⟨Z, S, d, S', fr, r, h, q⟩ => ?_
  unfold asg at h
  split at h
  · rename_i hl
    cases h
    obtain ⟨f', ow⟩ := fr.store (Z := Z) (sv := .val d) (v := v) r (fun b z => ⟨z, by rw [tmpA_val]; exact fun z => nomatch z⟩) (fun b z => by rw [tmpA_val] at z; cases z) (hL.pin i hl.1) hl.2
    refine q _ ⟨f', fun _ _ e _ => e, fun b z => (ow b z).elim .inl fun q => (by rw [tmpA_val] at q; cases q), fun _ h => h⟩ fun j hj => ?_
    have hj : j ∉ [i] := hj
    rw [List.getElem?_set_ne (by simpa using fun e => hj (by simp [e]))]
  · cases h
theorem sd_gnil : PGs X [] (tGs c (asgs L []) (Tg.slotss [])) := by
  refine PGs_imp pgs_nil fun v σ H Q ⟨Z, S, d, S', fr, r, h, q⟩ => ?_
  cases r with
  | nil => cases h; exact ⟨rfl, q σ fr.step fun _ _ => rfl⟩
  | cons => simp [asgs] at h
theorem sd_gcons {e : Expr} {es : List Expr} {tg : Tg} {ts : List Tg} (h1 : PG X e (tG c (asg L tg) tg.slots)) (h2 : PGs X es (tGs c (asgs L ts) (Tg.slotss ts))) (hs : (assignEach (e :: es) X.env).map (·.2) = assign e X.env :: (assignEach es X.env).map (·.2)) :
    PGs X (e :: es) (tGs c (asgs L (tg :: ts)) (Tg.slotss (tg :: ts))) := by
  refine PGs_imp (pgs_cons h1 h2 hs) fun v σ H Q ⟨Z, S, d, S', fr, r, h, q⟩ => ?_
  cases r with
  | nil => simp [asgs] at h
  | @cons v0 vs0 d0 ds0 r rr =>
    simp only [asgs, Option.bind_eq_some_iff] at h
    obtain ⟨S1, q1, q2⟩ := h
    refine ⟨v0, vs0, rfl, Z, S, d0, S1, fr, r, q1, fun σ1 st1 k1 => ⟨Z, S1, ds0, S', st1.fr, st1.rps (fun _ z => .inl z) rr, q2, fun σ2 st2 k2 => q σ2 (st1.trans st2) fun j hj => ?_⟩⟩
    have hj : j ∉ tg.slots ++ Tg.slotss ts := by simpa [Tg.slotss] using hj
    rw [k2 j fun z => hj (List.mem_append_right _ z), k1 j fun z => hj (List.mem_append_left _ z)]
theorem sd_gtup {es : List Expr} {k : Nat} {ts : List Tg} (hK : c.K = X.K) (hc : X.calm = true) (h : PGs X es (tGs c (asgs L ts) (Tg.slotss ts))) (hn : (assignEach es X.env).length = ts.length) (hst : (assignEach es X.env).findIdx? (·.1) = none) :
    PG X (.Tuple es k pos) (tG c (asg L (.tp ts)) (Tg.tp ts).slots) := by
  refine PG_imp (pg_tup hc h hn hst) fun v σ H Q ⟨Z, S, d, S', fr, r, h, q⟩ => ?_
  cases d with
  | tup ds =>
    cases r with
    | @tup a xs _ g rr =>
      have h : asgs L ts ds S = some S' := by simpa [asg] using h
      have ln : ∀ {ts : List Tg} {ds : List D} {S S' : FS}, asgs L ts ds S = some S' → ds.length = ts.length := by
        intro ts
        induction ts with
        | nil => intro ds S S' h; cases ds with
          | nil => rfl
          | cons => simp [asgs] at h
        | cons t ts ih => intro ds S S' h; cases ds with
          | nil => simp [asgs] at h
          | cons d ds =>
            simp only [asgs, Option.bind_eq_some_iff] at h
            obtain ⟨S1, _, q2⟩ := h
            rw [List.length_cons, List.length_cons, ih q2]
      refine ⟨a, xs, rfl, by rw [← hK]; exact g.sq, by rw [rr.length, ln h], Z, S, ds, S', fr, rr, h, fun σ' st k => q σ' st fun j hj => k j (by simpa [Tg.slots] using hj)⟩
  | _ => simp [asg] at h
/-- target = e, the value taken -/
def sTgt (L : List Bool) (tg : Tg) (fa : FE) : FSt := fun S => (fa S).toO fun x S1 => match tk S1 x with
  | some (d, S2) => match asg L tg d S2 with
    | some S3 => .nx S3
    | none => .no
  | none => .no
theorem sd_tgt {t e : Expr} {fa : FE} {tg : Tg} (ha : PE X e (tE c W fa)) (hg : PG X t (tG c (asg L tg) tg.slots)) (hs : swapsWithSole [t] e pos.line X.env = pure false) (hw : swappedStores [t] e X.env = pure none) (h1 : (assignEach [t] X.env).map (·.2) = [assign t X.env]) :
    PS X (.Assign [t] e pos) (tS c W (sTgt L tg fa)) := by
  refine PS_imp (ps_asg ha hg hs hw h1) fun E σ H ⟨Z, S, fr, h⟩ => ?_
  refine tE_toO fr h fun x S1 h1 v H1 g1 => ?_
  split at h1
  · rename_i d S2 q1
    split at h1
    · rename_i S3 q2
      obtain ⟨s2, rd⟩ := g1.taken fr q1
      exact ⟨Z, S2, d, S3, s2.fr, rd, q2, fun σ' st _ => h1 σ' H1 (s2.trans st)⟩
    · exact h1.elim
  · exact h1.elim
end
end FL

set_option maxRecDepth 100000
set_option maxHeartbeats 4000000
/-! What a loop walks; for; list comprehensions. -/
namespace FL
open PySem PySem.Spec PyProof.Rows L2

/-! ### equality of trees, decided -/
mutual
def eqT : D → D → Bool
  | .non, .non => true
  | .bl a, .bl b => a == b
  | .int a, .int b => decide (a = b)
  | .str a, .str b => decide (a = b)
  | .tup a, .tup b => eqTs a b
  | .lst a, .lst b => eqTs a b
  | .dic a, .dic b => decide (a = b)
  | .exc a, .exc b => decide (a = b)
  | _, _ => false
def eqTs : List D → List D → Bool
  | [], [] => true
  | a :: as, b :: bs => eqT a b && eqTs as bs
  | _, _ => false
end
mutual
theorem eqT_eq : ∀ {a b : D}, eqT a b = true → a = b
  | .non, .non, _ => rfl
  | .bl a, .bl b, h => by simp [eqT] at h; rw [h]
  | .int a, .int b, h => by simp [eqT] at h; rw [h]
  | .str a, .str b, h => by simp [eqT] at h; rw [h]
  | .tup a, .tup b, h => by rw [eqTs_eq (a := a) (b := b) (by simpa [eqT] using h)]
  | .lst a, .lst b, h => by rw [eqTs_eq (a := a) (b := b) (by simpa [eqT] using h)]
  | .dic a, .dic b, h => by simp [eqT] at h; rw [h]
  | .exc a, .exc b, h => by simp [eqT] at h; rw [h]
  | .exc _, .non, h | .exc _, .bl _, h | .exc _, .int _, h | .exc _, .str _, h | .exc _, .tup _, h | .exc _, .lst _, h | .exc _, .dic _, h => by simp [eqT] at h
  | .non, .exc _, h | .bl _, .exc _, h | .int _, .exc _, h | .str _, .exc _, h | .tup _, .exc _, h | .lst _, .exc _, h | .dic _, .exc _, h => by simp [eqT] at h
  | .dic _, .non, h | .dic _, .bl _, h | .dic _, .int _, h | .dic _, .str _, h | .dic _, .tup _, h | .dic _, .lst _, h => by simp [eqT] at h
  | .non, .dic _, h | .bl _, .dic _, h | .int _, .dic _, h | .str _, .dic _, h | .tup _, .dic _, h | .lst _, .dic _, h => by simp [eqT] at h
  | .non, .bl _, h | .non, .int _, h | .non, .str _, h | .non, .tup _, h | .non, .lst _, h => by simp [eqT] at h
  | .bl _, .non, h | .bl _, .int _, h | .bl _, .str _, h | .bl _, .tup _, h | .bl _, .lst _, h => by simp [eqT] at h
  | .int _, .non, h | .int _, .bl _, h | .int _, .str _, h | .int _, .tup _, h | .int _, .lst _, h => by simp [eqT] at h
  | .str _, .non, h | .str _, .bl _, h | .str _, .int _, h | .str _, .tup _, h | .str _, .lst _, h => by simp [eqT] at h
  | .tup _, .non, h | .tup _, .bl _, h | .tup _, .int _, h | .tup _, .str _, h | .tup _, .lst _, h => by simp [eqT] at h
  | .lst _, .non, h | .lst _, .bl _, h | .lst _, .int _, h | .lst _, .str _, h | .lst _, .tup _, h => by simp [eqT] at h
theorem eqTs_eq : ∀ {a b : List D}, eqTs a b = true → a = b
  | [], [], _ => rfl
  | a :: as, b :: bs, h => by
    simp only [eqTs, Bool.and_eq_true] at h
    rw [eqT_eq h.1, eqTs_eq h.2]
  | [], _ :: _, h => by simp [eqTs] at h
  | _ :: _, [], h => by simp [eqTs] at h
end
mutual
theorem eqT_self : ∀ a : D, eqT a a = true
  | .non => by simp [eqT]
  | .bl a => by simp [eqT]
  | .int a => by simp [eqT]
  | .str a => by simp [eqT]
  | .tup a => by simp [eqT, eqTs_self a]
  | .lst a => by simp [eqT, eqTs_self a]
  | .dic a => by simp [eqT]
  | .exc a => by simp [eqT]
theorem eqTs_self : ∀ a : List D, eqTs a a = true
  | [] => by simp [eqTs]
  | a :: as => by simp [eqTs, eqT_self a, eqTs_self as]
end

/-- a slot that holds a value is its value -/
def norm (S : FS) : Arg → Arg
  | .ref i => match gt S i with
    | some (.val d) => .tmp (.val d)
    | _ => .ref i
  | x => x
/-- the slots that are walked stand as they stood -/
def chkR (S : FS) : List Arg → List D → Bool
  | .ref i :: xs, d :: ds => (match gt S i with
    | some (.own (.lst es)) => eqT (.lst es) d
    | _ => false) && chkR S xs ds
  | .tmp _ :: xs, _ :: ds => chkR S xs ds
  | [], [] => true
  | _, _ => false
def tmpOk : List Arg → List D → Prop
  | .tmp (.val e) :: xs, d :: ds => e = d ∧ tmpOk xs ds
  | .tmp (.own (.lst es)) :: xs, d :: ds => .lst es = d ∧ tmpOk xs ds
  | .ref _ :: xs, _ :: ds => tmpOk xs ds
  | [], [] => True
  | _, _ => False
theorem chk_pks {S : FS} : ∀ {xs : List Arg} {ds : List D}, tmpOk xs ds → chkR S xs ds = true → pks S xs = some ds
  | [], [], _, _ => rfl
  | .tmp (.val e) :: xs, d :: ds, h, k => by
    obtain ⟨rfl, h⟩ := h
    simp only [pks, pk, chk_pks h (by simpa [chkR] using k), Option.bind_some]
  | .tmp (.own (.dk _)) :: _, _ :: _, h, _ => h.elim
  | .tmp (.own (.dt _)) :: _, _ :: _, h, _ => h.elim
  | .tmp (.own (.lst e)) :: xs, d :: ds, h, k => by
    obtain ⟨rfl, h⟩ := h
    simp only [pks, pk, chk_pks h (by simpa [chkR] using k), Option.bind_some]
  | .ref i :: xs, d :: ds, h, k => by
    simp only [chkR, Bool.and_eq_true] at k
    obtain ⟨k1, k2⟩ := k
    split at k1
    · rename_i es q
      have e := eqT_eq k1
      subst e
      simp only [pks, pk, q, chk_pks (show tmpOk xs ds from h) k2, Option.bind_some]
    · cases k1
  | .tmp (.val _) :: _, [], h, _ => h.elim
  | .tmp (.own (.lst _)) :: _, [], h, _ => h.elim
  | .tmp (.own (.dk _)) :: _, [], h, _ => h.elim
  | .tmp (.own (.dt _)) :: _, [], h, _ => h.elim
  | .ref _ :: _, [], h, _ => h.elim
  | [], _ :: _, h, _ => h.elim
theorem pks_tmpOk {S : FS} : ∀ {xs : List Arg} {ds : List D}, pks S xs = some ds → tmpOk (xs.map (norm S)) ds
  | [], ds, h => by cases h; trivial
  | x :: xs, ds, h => by
    simp only [pks, Option.bind_eq_some_iff] at h
    obtain ⟨d, h1, es, h2, h3⟩ := h
    cases h3
    have ih := pks_tmpOk h2
    cases x with
    | tmp s =>
      cases s with
      | val _ => cases h1; exact ⟨rfl, ih⟩
      | own b => cases b <;> (cases h1; try exact ⟨rfl, ih⟩)
    | ref i =>
      rw [List.map_cons]
      simp only [pk] at h1
      split at h1
      · rename_i e q
        cases h1
        have en : norm S (.ref i) = .tmp (.val d) := by simp only [norm, q]
        rw [en]
        exact ⟨rfl, ih⟩
      · rename_i e q
        cases h1
        have en : norm S (.ref i) = .ref i := by simp only [norm, q]
        rw [en]
        exact ih
      · cases h1

abbrev FI := FS → R (List Arg × List D × List D)
structure Walk (K : PySem.W.Frag) (J : It) (vs : List V) (ds items : List D) : Prop where
  go : ∀ H O i, Vws K H O vs ds → i < items.length → J.go i H
  yld : ∀ H O i x H' d, Vws K H O vs ds → items[i]? = some d → J.yld i H x H' → New K O H (.val d) x H'
  stop : ∀ H O, Vws K H O vs ds → J.stop items.length H
def PostI (c : FCx) (W : WX) (Z : Addr → Prop) (σ : Slots) (H : Hp) (S : FS) (r : R (List Arg × List D × List D)) (Q : It → Hp → Prop) : Prop := match r with
  | .ok p S' => ∀ J vs H', Gots c Z σ H S H' S' vs p.1 → pks S' p.1 = some p.2.1 → Walk c.K J vs p.2.1 p.2.2 → Q J H'
  | .ex k S' => ∀ H', Step c Z σ H S σ H' S' → W (.ref (c.cls k)) none σ H'
  | .no => False
def tI (c : FCx) (W : WX) (f : FI) : TI := fun σ H Q => ∃ Z S, Fr c Z σ H S ∧ PostI c W Z σ H S (f S) Q
theorem PI_imp {X : Cx} {tg e : Expr} {t t' : TI} (h : PI X tg e t) (i : ∀ σ H Q, t' σ H Q → t σ H Q) : PI X tg e t' := ⟨fun pins s σ H Q I q => h.run pins s σ H Q I (i σ H Q q)⟩
theorem PI_or {X : Cx} {tg e : Expr} {t t' : TI} (h : PI X tg e t) (h' : PI X tg e t') : PI X tg e (fun σ H Q => t σ H Q ∨ t' σ H Q) := ⟨fun pins s σ H Q I q => q.elim (h.run pins s σ H Q I) (h'.run pins s σ H Q I)⟩

def charsD (z : Str) : List D := z.cps.toList.map fun k => .str ⟨#[k]⟩
def iEx (fa : FE) : FI := fun S => (fa S).bind fun x S1 => match pk S1 x with
  | some (.lst ds) => .ok ([x], [.lst ds], ds) S1
  | some (.tup ds) => .ok ([x], [.tup ds], ds) S1
  | some (.str z) => .ok ([x], [.str z], charsD z) S1
  | _ => .no
def rngD (lo : Int) (n : Nat) : List D := (List.range n).map fun k => .int (lo + (k : Nat))
def rngU (hi : Int) (n : Nat) : List D := (List.range n).map fun k => .int (hi - (k : Nat))
@[irreducible] def rgB : Int := 1000000000000000000
theorem rgB_val : rgB = 1000000000000000000 := by unfold rgB; rfl
def iR1 (fs : FA) : FI := fun S => (fs S).bind fun xs S1 => match pks S1 xs with
  | some [.int j] => if -rgB < j ∧ j < rgB then .ok (xs, [.int j], rngD 0 j.toNat) S1 else .no
  | _ => .no
def iR2 (fs : FA) : FI := fun S => (fs S).bind fun xs S1 => match pks S1 xs with
  | some [.int i, .int j] => if (-rgB < j ∧ j < rgB) ∧ (-rgB < i ∧ i < rgB) then .ok (xs, [.int i, .int j], rngD i (j - i).toNat) S1 else .no
  | _ => .no
def iR3 (fs : FA) : FI := fun S => (fs S).bind fun xs S1 => match pks S1 xs with
  | some [.int i, .int j, .int k] => if (-rgB < j ∧ j < rgB) ∧ (-rgB < i ∧ i < rgB) ∧ k = -1 then .ok (xs, [.int i, .int j, .int k], rngU i (i - j).toNat) S1 else .no
  | _ => .no
def enumD : Nat → List D → List D
  | _, [] => []
  | n, d :: ds => .tup [.int (n : Nat), d] :: enumD (n + 1) ds
def iEnu (fs : FA) : FI := fun S => (fs S).bind fun xs S1 => match pks S1 xs with
  | some [.lst ds] => .ok (xs, [.lst ds], enumD 0 ds) S1
  | _ => .no
def zipD : List D → List D → List D
  | a :: as, b :: bs => .tup [a, b] :: zipD as bs
  | _, _ => []
def iZp (fs : FA) : FI := fun S => (fs S).bind fun xs S1 => match pks S1 xs with
  | some [.lst ds, .lst es] => .ok (xs, [.lst ds, .lst es], zipD ds es) S1
  | some [.tup ds, .tup es] => .ok (xs, [.tup ds, .tup es], zipD ds es) S1
  | _ => .no
theorem enumD_get : ∀ (ds : List D) (n i : Nat), (enumD n ds)[i]? = (ds[i]?).map fun d => .tup [.int ((n + i : Nat) : Int), d]
  | [], n, i => by simp [enumD]
  | d :: ds, n, 0 => by simp [enumD]
  | d :: ds, n, i + 1 => by
    simp only [enumD, List.getElem?_cons_succ, enumD_get ds (n + 1) i]
    rw [show n + 1 + i = n + (i + 1) by omega]
theorem enumD_len : ∀ (ds : List D) (n : Nat), (enumD n ds).length = ds.length
  | [], _ => rfl
  | d :: ds, n => by simp [enumD, enumD_len ds]
theorem zipD_len : ∀ (ds es : List D), (zipD ds es).length = min ds.length es.length
  | [], es => by simp [zipD]
  | d :: ds, [] => by simp [zipD]
  | d :: ds, e :: es => by simp only [zipD, List.length_cons, zipD_len ds es]; omega
theorem zipD_get : ∀ (ds es : List D) (i : Nat) (d : D), (zipD ds es)[i]? = some d → ∃ a b, ds[i]? = some a ∧ es[i]? = some b ∧ d = .tup [a, b]
  | [], es, i, d, h => by simp [zipD] at h
  | a :: ds, [], i, d, h => by simp [zipD] at h
  | a :: ds, b :: es, 0, d, h => by simp [zipD] at h; exact ⟨a, b, rfl, rfl, h.symm⟩
  | a :: ds, b :: es, i + 1, d, h => by
    simp only [zipD, List.getElem?_cons_succ] at h
    obtain ⟨x, y, h1, h2, h3⟩ := zipD_get ds es i d h
    exact ⟨x, y, by simpa using h1, by simpa using h2, h3⟩

section
variable {K : PySem.W.Frag} {v u : V} {ds es : List D}
theorem Vws.l1 {H : Hp} {O : Addr → Prop} {v : V} (h : Vws K H O [v] [.lst ds]) : ∃ a xs, v = .ref a ∧ SqL K H a xs ∧ Rps K H O xs ds := by
  obtain ⟨w, e, h⟩ := h.one
  cases e
  exact h
theorem Vws.t1 {H : Hp} {O : Addr → Prop} {v : V} (h : Vws K H O [v] [.tup ds]) : ∃ a xs, v = .ref a ∧ SqT K H a xs ∧ Rps K H O xs ds := by
  obtain ⟨w, e, h⟩ := h.one
  cases e
  obtain ⟨a, xs, h1, h2, h3, _⟩ := h.tup
  exact ⟨a, xs, h1, h2, h3⟩
theorem walk_list {a : Addr} : Walk K (Itl K a) [.ref a] [.lst ds] ds := by
  refine ⟨fun H O i h hi => ?_, fun H O i x H' d h hd y => ?_, fun H O h => ?_⟩
  · obtain ⟨b, xs, e, s, r⟩ := h.l1
    cases e
    obtain ⟨z, h1, _⟩ := r.get (List.getElem?_eq_getElem hi)
    exact ⟨xs, z, s, h1⟩
  · obtain ⟨b, xs, e, s, r⟩ := h.l1
    cases e
    obtain ⟨z, h1, h2⟩ := r.get hd
    obtain ⟨rfl, y⟩ := y
    have := (y xs s).symm.trans h1
    cases this
    exact .inl ⟨rfl, h2⟩
  · obtain ⟨b, xs, e, s, r⟩ := h.l1
    cases e
    exact ⟨xs, s, by rw [r.length]; exact Nat.le_refl _⟩
theorem walk_tup {a : Addr} : Walk K (Itt K a) [.ref a] [.tup ds] ds := by
  refine ⟨fun H O i h hi => ?_, fun H O i x H' d h hd y => ?_, fun H O h => ?_⟩
  · obtain ⟨b, xs, e, s, r⟩ := h.t1
    cases e
    obtain ⟨z, h1, _⟩ := r.get (List.getElem?_eq_getElem hi)
    exact ⟨xs, z, s, h1⟩
  · obtain ⟨b, xs, e, s, r⟩ := h.t1
    cases e
    obtain ⟨z, h1, h2⟩ := r.get hd
    obtain ⟨rfl, y⟩ := y
    have := (y xs s).symm.trans h1
    cases this
    exact .inl ⟨rfl, h2⟩
  · obtain ⟨b, xs, e, s, r⟩ := h.t1
    cases e
    exact ⟨xs, s, by rw [r.length]; exact Nat.le_refl _⟩
theorem walk_str {z : Str} : Walk K (Its z) [v] [.str z] (charsD z) := by
  have hl : (charsD z).length = z.cps.size := by simp [charsD]
  refine ⟨fun H O i h hi => by rw [hl] at hi; exact hi, fun H O i x H' d h hd y => ?_, fun H O h => by rw [hl]; exact Nat.le_refl _⟩
  obtain ⟨rfl, k, h1, rfl⟩ := y
  simp only [charsD, List.getElem?_map, Array.getElem?_toList, h1, Option.map_some] at hd
  cases hd
  exact .inl ⟨rfl, .str _⟩
theorem walk_rng {lo : Int} {n : Nat} {vs : List V} {ks : List D} : Walk K (Itr lo n) vs ks (rngD lo n) := by
  have hl : (rngD lo n).length = n := by simp [rngD]
  refine ⟨fun H O i h hi => by rw [hl] at hi; exact hi, fun H O i x H' d h hd y => ?_, fun H O h => by rw [hl]; exact Nat.le_refl _⟩
  obtain ⟨rfl, rfl⟩ := y
  have hi : i < n := by rw [← hl]; exact (List.getElem?_eq_some_iff.mp hd).1
  simp only [rngD, List.getElem?_map, List.getElem?_range hi, Option.map_some] at hd
  cases hd
  exact .inl ⟨rfl, .int _⟩
theorem walk_rngU {hi : Int} {n : Nat} {vs : List V} {ks : List D} : Walk K (Itc hi (-1) n) vs ks (rngU hi n) := by
  have hl : (rngU hi n).length = n := by simp [rngU]
  refine ⟨fun H O i h hi => by rw [hl] at hi; exact hi, fun H O i x H' d h hd y => ?_, fun H O h => by rw [hl]; exact Nat.le_refl _⟩
  obtain ⟨rfl, rfl⟩ := y
  have hi : i < n := by rw [← hl]; exact (List.getElem?_eq_some_iff.mp hd).1
  simp only [rngU, List.getElem?_map, List.getElem?_range hi, Option.map_some] at hd
  cases hd
  rename_i hi0
  rw [show hi0 + ((i : Nat) : Int) * -1 = hi0 - (i : Nat) by omega]
  exact .inl ⟨rfl, .int _⟩
theorem walk_enu {a : Addr} : Walk K (Ite K a) [.ref a] [.lst ds] (enumD 0 ds) := by
  refine ⟨fun H O i h hi => ?_, fun H O i x H' d h hd y => ?_, fun H O h => ?_⟩
  · obtain ⟨b, xs, e, s, r⟩ := h.l1
    cases e
    rw [enumD_len] at hi
    obtain ⟨z, h1, _⟩ := r.get (List.getElem?_eq_getElem hi)
    exact ⟨xs, z, s, h1⟩
  · obtain ⟨b, xs, e, s, r⟩ := h.l1
    cases e
    rw [enumD_get, Option.map_eq_some_iff] at hd
    obtain ⟨d0, h0, rfl⟩ := hd
    obtain ⟨z, h1, h2⟩ := r.get h0
    obtain ⟨T, x0, rfl, hT, rfl, y⟩ := y
    have := (y xs s).symm.trans h1
    cases this
    refine .inr ⟨T, _, _, rfl, hT, rfl, rfl, .cons ?_ (.cons h2 .nil)⟩
    rw [show (0 + i : Nat) = i by omega]
    exact .int _
  · obtain ⟨b, xs, e, s, r⟩ := h.l1
    cases e
    exact ⟨xs, s, by rw [r.length, enumD_len]; exact Nat.le_refl _⟩
theorem walk_zip {a b : Addr} : Walk K (Itz K a b) [.ref a, .ref b] [.lst ds, .lst es] (zipD ds es) := by
  have two : ∀ {H O}, Vws K H O [.ref a, .ref b] [.lst ds, .lst es] → ∃ xs ys, SqL K H a xs ∧ Rps K H O xs ds ∧ SqL K H b ys ∧ Rps K H O ys es := fun h => by
    obtain ⟨v, u, e, h1, h2⟩ := h.two
    cases e
    obtain ⟨_, xs, e1, s, r⟩ := h1
    obtain ⟨_, ys, e2, s', r'⟩ := h2
    cases e1; cases e2
    exact ⟨xs, ys, s, r, s', r'⟩
  refine ⟨fun H O i h hi => ?_, fun H O i x H' d h hd y => ?_, fun H O h => ?_⟩
  · obtain ⟨xs, ys, s, r, s', r'⟩ := two h
    rw [zipD_len] at hi
    obtain ⟨z, h1, _⟩ := r.get (List.getElem?_eq_getElem (show i < ds.length by omega))
    obtain ⟨z', h1', _⟩ := r'.get (List.getElem?_eq_getElem (show i < es.length by omega))
    exact ⟨xs, ys, z, z', s, s', h1, h1'⟩
  · obtain ⟨xs, ys, s, r, s', r'⟩ := two h
    obtain ⟨p, q, g1, g2, rfl⟩ := zipD_get _ _ _ _ hd
    obtain ⟨z, h1, h2⟩ := r.get g1
    obtain ⟨z', h1', h2'⟩ := r'.get g2
    obtain ⟨T, x0, y0, rfl, hT, rfl, y1, y2⟩ := y
    have := (y1 xs s).symm.trans h1
    cases this
    have := (y2 ys s').symm.trans h1'
    cases this
    exact .inr ⟨T, _, _, rfl, hT, rfl, rfl, .cons h2 (.cons h2' .nil)⟩
  · obtain ⟨xs, ys, s, r, s', r'⟩ := two h
    exact ⟨xs, ys, s, s', by rw [r.length, r'.length, zipD_len]; omega⟩
theorem walk_zipT {a b : Addr} : Walk K (RZ.ItzT K a b) [.ref a, .ref b] [.tup ds, .tup es] (zipD ds es) := by
  have two : ∀ {H O}, Vws K H O [.ref a, .ref b] [.tup ds, .tup es] → ∃ xs ys, SqT K H a xs ∧ Rps K H O xs ds ∧ SqT K H b ys ∧ Rps K H O ys es := fun h => by
    obtain ⟨v, u, e, h1, h2⟩ := h.two
    cases e
    obtain ⟨_, xs, e1, s, r, _⟩ := h1.tup
    obtain ⟨_, ys, e2, s', r', _⟩ := h2.tup
    cases e1; cases e2
    exact ⟨xs, ys, s, r, s', r'⟩
  refine ⟨fun H O i h hi => ?_, fun H O i x H' d h hd y => ?_, fun H O h => ?_⟩
  · obtain ⟨xs, ys, s, r, s', r'⟩ := two h
    rw [zipD_len] at hi
    obtain ⟨z, h1, _⟩ := r.get (List.getElem?_eq_getElem (show i < ds.length by omega))
    obtain ⟨z', h1', _⟩ := r'.get (List.getElem?_eq_getElem (show i < es.length by omega))
    exact ⟨xs, ys, z, z', s, s', h1, h1'⟩
  · obtain ⟨xs, ys, s, r, s', r'⟩ := two h
    obtain ⟨p, q, g1, g2, rfl⟩ := zipD_get _ _ _ _ hd
    obtain ⟨z, h1, h2⟩ := r.get g1
    obtain ⟨z', h1', h2'⟩ := r'.get g2
    obtain ⟨T, x0, y0, rfl, hT, rfl, y1, y2⟩ := y
    have := (y1 xs s).symm.trans h1
    cases this
    have := (y2 ys s').symm.trans h1'
    cases this
    exact .inr ⟨T, _, _, rfl, hT, rfl, rfl, .cons h2 (.cons h2' .nil)⟩
  · obtain ⟨xs, ys, s, r, s', r'⟩ := two h
    exact ⟨xs, ys, s, s', by rw [r.length, r'.length, zipD_len]; omega⟩
end

section
variable {X : Cx} {c : FCx} {W : WX} {tg a b d e : Expr} {es : List Expr} {fa : FE} {fs : FA} {p pos tpos : Pos} {elts : List Expr} {kk : Nat}
theorem tI_bindA {fs : FA} {k : List Arg → FS → R (List Arg × List D × List D)} {Q : It → Hp → Prop} {Q1 : List V → Hp → Prop} {Z : Addr → Prop} {σ : Slots} {H : Hp} {S : FS} (fr : Fr c Z σ H S) (h : PostI c W Z σ H S ((fs S).bind k) Q)
    (hok : ∀ x S1, PostI c W Z σ H S (k x S1) Q → ∀ v H1, Gots c Z σ H S H1 S1 v x → Q1 v H1) : tA c W fs σ H Q1 := tA_bind (post := fun r => PostI c W Z σ H S r Q) fr h (fun _ _ h => h) id hok
theorem sd_iEx (hK : c.K = X.K) (ha : PE X e (tE c W fa)) : PI X tg e (tI c W (iEx fa)) := by
  refine PI_imp (PI_or (pi_list ha) (PI_or (pi_tup ha) (pi_str ha))) fun σ H Q ⟨Z, S, fr, h⟩ => ?_
  have h : PostI c W Z σ H S ((fa S).bind fun x S1 => match pk S1 x with
    | some (.lst ds) => .ok ([x], [.lst ds], ds) S1
    | some (.tup ds) => .ok ([x], [.tup ds], ds) S1
    | some (.str z) => .ok ([x], [.str z], charsD z) S1
    | _ => .no) Q := h
  cases q : fa S with
  | no => rw [q] at h; exact h.elim
  | ex i S1 => rw [q] at h; exact .inl ⟨Z, S, fr, by rw [q]; exact h⟩
  | ok x S1 =>
    rw [q] at h
    have h : PostI c W Z σ H S (match pk S1 x with
    | some (.lst ds) => .ok ([x], [.lst ds], ds) S1
    | some (.tup ds) => .ok ([x], [.tup ds], ds) S1
    | some (.str z) => .ok ([x], [.str z], charsD z) S1
    | _ => .no) Q := h
    split at h
    · rename_i ds q1
      refine .inl ⟨Z, S, fr, ?_⟩
      rw [q]
      intro v H1 g1
      obtain ⟨a, xs, rfl, s, r⟩ := pk_vw g1.step.fr g1.ar q1
      rw [hK] at s
      refine ⟨a, rfl, ⟨xs, s⟩, h _ _ _ g1.one (by simp [pks, q1]) ?_⟩
      rw [← hK]
      exact walk_list
    · rename_i ds q1
      refine .inr (.inl ⟨Z, S, fr, ?_⟩)
      rw [q]
      intro v H1 g1
      obtain ⟨a, xs, rfl, s, r, _⟩ := (pk_vw g1.step.fr g1.ar q1).tup
      rw [hK] at s
      refine ⟨a, rfl, ⟨xs, s⟩, h _ _ _ g1.one (by simp [pks, q1]) ?_⟩
      rw [← hK]
      exact walk_tup
    · rename_i z q1
      refine .inr (.inr ⟨Z, S, fr, ?_⟩)
      rw [q]
      intro v H1 g1
      cases (pk_vw g1.step.fr g1.ar q1).str
      exact ⟨z, rfl, h _ _ _ g1.one (by simp [pks, q1]) walk_str⟩
    · exact h.elim
theorem Vws.three {K : PySem.W.Frag} {H : Hp} {O : Addr → Prop} {vs : List V} {d e f : D} (h : Vws K H O vs [d, e, f]) : ∃ v u w, vs = [v, u, w] ∧ Vw K H O v d ∧ Vw K H O u e ∧ Vw K H O w f := by
  cases h with | cons a r => obtain ⟨u, w, rfl, h1, h2⟩ := r.two; exact ⟨_, u, w, rfl, a, h1, h2⟩
theorem sd_iR1 (gl : Gl X "range") (mg : X.mg "range" = none) (ha : PA X [a] (tA c W fs)) (hn : NS a) : PI X tg (.Call (.Name "range" p) [a] [] pos) (tI c W (iR1 fs)) := by
  refine PI_imp (pi_range1 gl mg ha (star_cons hn)) fun σ H Q ⟨Z, S, fr, h⟩ => ?_
  refine tI_bindA fr h fun xs S1 h1 vs H1 g1 => ?_
  split at h1
  · rename_i j q1
    split at h1
    · rename_i hb
      rw [rgB_val] at hb
      obtain ⟨v, rfl, w⟩ := (pks_vws g1.step.fr g1.ar q1).one
      cases w.int
      exact ⟨j, rfl, by omega, by omega, h1 _ _ _ g1 q1 walk_rng⟩
    · exact h1.elim
  · exact h1.elim
theorem sd_iR2 (gl : Gl X "range") (mg : X.mg "range" = none) (ha : PA X [a, b] (tA c W fs)) (hn : NS a) (hn2 : NS b) : PI X tg (.Call (.Name "range" p) [a, b] [] pos) (tI c W (iR2 fs)) := by
  refine PI_imp (pi_range2 gl mg ha (by rw [star_cons hn, star_cons hn2]; rfl) (by rw [star_cons hn2]; rfl)) fun σ H Q ⟨Z, S, fr, h⟩ => ?_
  refine tI_bindA fr h fun xs S1 h1 vs H1 g1 => ?_
  split at h1
  · rename_i i j q1
    split at h1
    · rename_i hb
      rw [rgB_val] at hb
      obtain ⟨v, u, rfl, w, w2⟩ := (pks_vws g1.step.fr g1.ar q1).two
      cases w.int; cases w2.int
      exact ⟨i, j, rfl, by omega, h1 _ _ _ g1 q1 walk_rng⟩
    · exact h1.elim
  · exact h1.elim
theorem sd_iR3 (gl : Gl X "range") (mg : X.mg "range" = none) (ha : PA X [a, b, d] (tA c W fs)) (hn : NS a) (hn2 : ∀ e ∈ [b, d], NS e) : PI X tg (.Call (.Name "range" p) [a, b, d] [] pos) (tI c W (iR3 fs)) := by
  refine PI_imp (pi_range3 gl mg ha (star_cons hn) (star_none hn2)) fun σ H Q ⟨Z, S, fr, h⟩ => ?_
  refine tI_bindA fr h fun xs S1 h1 vs H1 g1 => ?_
  split at h1
  · rename_i i j k q1
    split at h1
    · rename_i hb
      rw [rgB_val] at hb
      obtain ⟨h2, h3, rfl⟩ := hb
      obtain ⟨v, u, w0, rfl, w, w2, w3⟩ := (pks_vws g1.step.fr g1.ar q1).three
      cases w.int; cases w2.int; cases w3.int
      exact ⟨i, j, -1, (i - j).toNat, rfl, RgC.neg (by omega) (by omega) (by omega) (by omega), h1 _ _ _ g1 q1 walk_rngU⟩
    · exact h1.elim
  · exact h1.elim
theorem sd_iEnu (hK : c.K = X.K) (gl : Gl X "enumerate") (mg : X.mg "enumerate" = none) (ha : PA X [a] (tA c W fs)) (hn : NS a) : PI X (.Tuple elts kk tpos) (.Call (.Name "enumerate" p) [a] [] pos) (tI c W (iEnu fs)) := by
  refine PI_imp (pi_enum gl mg ha (star_cons hn)) fun σ H Q ⟨Z, S, fr, h⟩ => ?_
  refine tI_bindA fr h fun xs S1 h1 vs H1 g1 => ?_
  split at h1
  · rename_i ds q1
    obtain ⟨v, rfl, w⟩ := (pks_vws g1.step.fr g1.ar q1).one
    obtain ⟨l, ls, rfl, s, r⟩ := w.lst
    rw [hK] at s
    refine ⟨l, ls, rfl, s, h1 _ _ _ g1 q1 ?_⟩
    rw [← hK]
    exact walk_enu
  · exact h1.elim
theorem sd_iZp (hK : c.K = X.K) (gl : Gl X "zip") (mg : X.mg "zip" = none) (ha : PA X [a, b] (tA c W fs)) (hn : NS a) (hn2 : NS b) : PI X (.Tuple elts kk tpos) (.Call (.Name "zip" p) [a, b] [] pos) (tI c W (iZp fs)) := by
  refine PI_imp (RZ.pi_zipA gl mg ha (star_cons hn) (star_none fun e he => by simp at he; subst he; exact hn2)) fun σ H Q ⟨Z, S, fr, h⟩ => ?_
  refine tI_bindA fr h fun xs S1 h1 vs H1 g1 => ?_
  split at h1
  · rename_i ds es q1
    obtain ⟨v, u, rfl, w, w2⟩ := (pks_vws g1.step.fr g1.ar q1).two
    obtain ⟨l, ls, rfl, s, r⟩ := w.lst
    obtain ⟨l2, ls2, rfl, s2, r2⟩ := w2.lst
    rw [hK] at s s2
    refine ⟨l, l2, ls, ls2, rfl, .inl ⟨s, s2, h1 _ _ _ g1 q1 ?_⟩⟩
    rw [← hK]
    exact walk_zip
  · rename_i ds es q1
    obtain ⟨v, u, rfl, w, w2⟩ := (pks_vws g1.step.fr g1.ar q1).two
    obtain ⟨l, ls, rfl, s, r, _⟩ := w.tup
    obtain ⟨l2, ls2, rfl, s2, r2, _⟩ := w2.tup
    rw [hK] at s s2
    refine ⟨l, l2, ls, ls2, rfl, .inr ⟨s, s2, h1 _ _ _ g1 q1 ?_⟩⟩
    rw [← hK]
    exact walk_zipT
  · exact h1.elim
end
end FL

set_option maxRecDepth 100000
set_option maxHeartbeats 4000000
/-! for; list comprehensions. -/
namespace FL
open PySem PySem.Spec PyProof.Rows L2

def forL (L : List Bool) (tg : Tg) (f : FSt) : List D → FSt
  | [], S => .nx S
  | d :: items, S => match asg L tg d S with
    | none => .no
    | some S1 => match f S1 with
      | .nx S2 => forL L tg f items S2
      | .ct S2 => forL L tg f items S2
      | .bk S2 => .nx S2
      | o => o
def sFor (L : List Bool) (fi : FI) (tg : Tg) (f : FSt) : FSt := fun S => (fi S).toO fun p S1 => match tks p.1 S1 with
  | some (_, S2) => forL L tg f p.2.2 S2
  | none => .no

section
variable {c : FCx} {W : WX} {Z Z2 : Addr → Prop} {σ σ' : Slots} {H H' H1 : Hp} {S S' S1 : FS} {O O' : Addr → Prop}
theorem tk_pk {x : Arg} {d : D} (h : tk S x = some (d, S')) : pk S x = some d := by
  cases x with
  | tmp s =>
    cases s with
    | val _ => cases h; rfl
    | own b => cases b <;> (cases h; try rfl)
  | ref i =>
    simp only [tk] at h
    simp only [pk]
    split at h
    · cases h; rfl
    · cases h; rfl
    · cases h
theorem pk_frz {i : Nat} {x : Arg} {d : D} {ds : List D} (hi : gt S i = some (.own ds)) (h : pk S x = some d) : pk (st S i (some (.val (.lst ds)))) x = some d := by
  cases x with
  | tmp s =>
    cases s with
    | val _ => exact h
    | own b => cases b <;> exact h
  | ref j =>
    simp only [pk] at h ⊢
    rw [gt_st]
    by_cases e : i = j
    · subst e
      rw [hi] at h
      rw [if_pos rfl, if_pos (gt_lt hi)]
      exact h
    · rw [if_neg e]; exact h
theorem tks_pks : ∀ {xs : List Arg} {ds es : List D} {S S' : FS}, tks xs S = some (ds, S') → pks S xs = some es → ds = es
  | [], _, _, _, _, h, k => by cases h; cases k; rfl
  | x :: xs, ds, es, S, S', h, k => by
    simp only [tks, Option.bind_eq_some_iff] at h
    obtain ⟨⟨d, S1⟩, h1, ⟨ds', S2⟩, h2, h3⟩ := h
    cases h3
    simp only [pks, Option.bind_eq_some_iff] at k
    obtain ⟨e, k1, es', k2, k3⟩ := k
    cases k3
    have := (tk_pk h1).symm.trans k1
    cases this
    have key : ∀ {xs : List Arg} {es : List D}, pks S xs = some es → pks S1 xs = some es := by
      intro xs
      cases x with
      | tmp s =>
        cases s with
        | val _ => cases h1; exact fun h => h
        | own b => cases b <;> (cases h1; try exact fun h => h)
      | ref i =>
        simp only [tk] at h1
        split at h1
        · cases h1; exact fun h => h
        · rename_i ds0 q
          cases h1
          induction xs with
          | nil => intro es h; exact h
          | cons y ys ih =>
            intro es h
            simp only [pks, Option.bind_eq_some_iff] at h ⊢
            obtain ⟨e, k1, es', k2, k3⟩ := h
            exact ⟨e, pk_frz q k1, es', ih k2, k3⟩
        · cases h1
    rw [tks_pks h2 (key k2)]
theorem Rps.vws {K : PySem.W.Frag} : ∀ {vs : List V} {ds : List D}, Rps K H O vs ds → Vws K H O vs ds
  | _, _, .nil => .nil
  | _, _, .cons h r => .cons h.vw (Rps.vws r)
end
section
variable {X : Cx} {c : FCx} {W : WX} {L : List Bool} {f : FSt} {fi : FI} {tg : Tg} {t e : Expr} {pos : Pos}
theorem for_imp {c : FCx} {W : WX} {L : List Bool} {fi : FI} {tg : Tg} {f : FSt} {Z : Addr → Prop} {S : FS} {E : Ends} {σ : Slots} {H : Hp} (fr : Fr c Z σ H S) (h : PostS c W Z σ H S (sFor L fi tg f S) E) : tFor (tI c W fi) (tG c (asg L tg) tg.slots) (tS c W f) E σ H := by
  refine ⟨Z, S, fr, ?_⟩
  unfold sFor at h
  cases q : fi S with
  | no => rw [q] at h; exact h.elim
  | ex k S1 => rw [q] at h; exact fun H' g => h σ H' g
  | ok p S1 =>
    rw [q] at h
    intro J vs H1 g1 pk1 wk
    have h : PostS c W Z σ H S (match tks p.1 S1 with
      | some (_, S2) => forL L tg f p.2.2 S2
      | none => .no) E := h
    split at h
    · rename_i ds' S2 q1
      obtain ⟨s2, rd⟩ := g1.taken fr q1
      have e1 := tks_pks q1 pk1
      subst e1
      obtain ⟨xs, ds, items⟩ := p
      dsimp only at *
      refine ⟨fun i m σ' H' => m + i = items.length ∧ ∃ S', Step c Z σ H S σ' H' S' ∧ Rps c.K H' (OO σ' S' Z) vs ds ∧ PostS c W Z σ H S (forL L tg f (items.drop i) S') E, ⟨items.length, rfl, S2, s2, rd, h⟩, ?_⟩
      rintro i m σ3 H3 ⟨em, S3, s3, r3, h3⟩
      by_cases hi : i < items.length
      · refine .inr ⟨wk.go H3 _ i r3.vws hi, fun σ' H' => ∃ m', m' < m ∧ m' + (i + 1) = items.length ∧ ∃ S', Step c Z σ H S σ' H' S' ∧ Rps c.K H' (OO σ' S' Z) vs ds ∧ PostS c W Z σ H S (forL L tg f (items.drop (i + 1)) S') E,
          fun σ' H' ⟨m', lt, e, r⟩ => ⟨m', lt, e, r⟩, fun x H4 y => ?_⟩
        rw [List.drop_eq_getElem_cons hi] at h3
        have nw := wk.yld H3 _ i x H4 _ r3.vws (List.getElem?_eq_getElem hi) y
        have gx := got_new s3.fr s3.fr.step (fun _ h => h) nw
        have z0 : ∀ a, Z a → Zt Z (tmpA x (.tmp (.val items[i]))) a := zl
        have s4 : Step c Z σ3 H3 S3 σ3 H4 S3 := gx.step.sub z0
        have rx : Rp c.K H4 (OO σ3 S3 Z) x items[i] := Rp.mono (fun _ _ e _ => e) (fun a z => .inl (z.elim .inl fun q => .inr (z0 a q))) gx.ar
        simp only [forL] at h3
        cases q2 : asg L tg items[i] S3 with
        | none => rw [q2] at h3; exact h3.elim
        | some S4 =>
          rw [q2] at h3
          refine ⟨Z, S3, items[i], S4, s4.fr, rx, q2, fun σ5 s5 _ => ?_⟩
          have s35 := (s3.trans s4).trans s5
          have r5 := ((s4.trans s5).rps (fun _ z => .inl z) r3)
          refine ⟨Z, S4, s5.fr, ?_⟩
          have h3 : PostS c W Z σ H S (match f S4 with
            | .nx S2 => forL L tg f (items.drop (i + 1)) S2
            | .ct S2 => forL L tg f (items.drop (i + 1)) S2
            | .bk S2 => .nx S2
            | o => o) E := h3
          have again : ∀ S6, PostS c W Z σ H S (forL L tg f (items.drop (i + 1)) S6) E → ∀ σ' H', Step c Z σ5 H4 S4 σ' H' S6 → ∃ m', m' < m ∧ m' + (i + 1) = items.length ∧ ∃ S', Step c Z σ H S σ' H' S' ∧ Rps c.K H' (OO σ' S' Z) vs ds ∧ PostS c W Z σ H S (forL L tg f (items.drop (i + 1)) S') E :=
            fun S6 h6 σ' H' s6 => ⟨m - 1, by omega, by omega, S6, s35.trans s6, s6.rps (fun _ z => .inl z) r5, h6⟩
          cases q3 : f S4 with
          | nx S6 => rw [q3] at h3; exact again S6 h3
          | ct S6 => rw [q3] at h3; exact again S6 h3
          | bk S6 => rw [q3] at h3; exact fun σ' H' st => h3 σ' H' (s35.trans st)
          | rt r S6 => rw [q3] at h3; exact fun v σ' H' st => h3 v σ' H' (st.after s35)
          | ex k S6 => rw [q3] at h3; exact fun σ' H' st => h3 σ' H' (s35.trans st)
          | no => rw [q3] at h3; exact h3
      · have ei : i = items.length := by omega
        subst ei
        rw [List.drop_length] at h3
        exact .inl ⟨wk.stop H3 _ r3.vws, h3 σ3 H3 s3⟩
    · exact h.elim
theorem sd_for {body : List Stmt} (hp : PassesOwn (model X.prog X.w) X.A X.env X.xe) (hc : X.calm = true) (hi : PI X t e (tI c W fi)) (hg : PG X t (tG c (asg L tg) tg.slots)) (hb : PSs X body (tS c W f))
    (hs : ∀ x, foldedSetIterable e X.env x = pure x) : PS X (.For t e body [] pos) (tS c W (sFor L fi tg f)) :=
  PS_imp (ps_for hp hc hi hg hb hs) fun E σ H ⟨Z, S, fr, h⟩ => for_imp fr h
end

/-! ### for over a list that is lent: it stays the slot's own -/
def forKL (i0 : Nat) (ds0 : List D) (L : List Bool) (tg : Tg) (f : FSt) : List D → FSt
  | [], S => if chkR S [.ref i0] [.lst ds0] = true then .nx S else .no
  | d :: items, S => if chkR S [.ref i0] [.lst ds0] = true then match asg L tg d S with
    | none => .no
    | some S1 => match f S1 with
      | .nx S2 => forKL i0 ds0 L tg f items S2
      | .ct S2 => forKL i0 ds0 L tg f items S2
      | .bk S2 => .nx S2
      | o => o
    else .no
def lentI (S : FS) (L : List Bool) : List Arg → Option (Nat × List D)
  | [.ref i] => if isL L i = true then match gt S i with
      | some (.own (.lst ds)) => some (i, ds)
      | _ => none
    else none
  | _ => none
def sForK (L : List Bool) (fi : FI) (tg : Tg) (f : FSt) : FSt := fun S => (fi S).toO fun p S1 => match lentI S1 L p.1 with
  | some (i, ds) => forKL i ds L tg f p.2.2 S1
  | none => match tks p.1 S1 with
    | some (_, S2) => forL L tg f p.2.2 S2
    | none => .no
section
variable {X : Cx} {c : FCx} {W : WX} {t e : Expr} {fi : FI} {f : FSt} {L : List Bool} {tg : Tg} {pos : Pos}
theorem lentI_at {S : FS} {xs : List Arg} {i : Nat} {ds : List D} (h : lentI S L xs = some (i, ds)) : xs = [.ref i] ∧ isL L i = true ∧ gt S i = some (.own ds) := by
  unfold lentI at h
  split at h
  · split at h
    · rename_i j q
      split at h
      · rename_i es q2
        cases h
        exact ⟨rfl, q, q2⟩
      · cases h
    · cases h
  · cases h
theorem sd_forK {body : List Stmt} (hL : LOk c L) (hp : PassesOwn (model X.prog X.w) X.A X.env X.xe) (hc : X.calm = true) (hi : PI X t e (tI c W fi)) (hg : PG X t (tG c (asg L tg) tg.slots)) (hb : PSs X body (tS c W f))
    (hs : ∀ x, foldedSetIterable e X.env x = pure x) : PS X (.For t e body [] pos) (tS c W (sForK L fi tg f)) := by
  refine PS_imp (ps_for hp hc hi hg hb hs) fun E σ H ⟨Z, S, fr, h⟩ => ?_
  unfold sForK at h
  cases q : fi S with
  | no => rw [q] at h; exact h.elim
  | ex k S1 =>
    rw [q] at h
    exact ⟨Z, S, fr, by rw [q]; exact fun H' g => h σ H' g⟩
  | ok p S1 =>
    rw [q] at h
    have h9 : PostS c W Z σ H S (match lentI S1 L p.1 with
      | some (i, ds) => forKL i ds L tg f p.2.2 S1
      | none => match tks p.1 S1 with
        | some (_, S2) => forL L tg f p.2.2 S2
        | none => .no) E := h
    cases q0 : lentI S1 L p.1 with
    | none =>
      rw [q0] at h9
      refine for_imp fr ?_
      unfold sFor
      rw [q]
      exact h9
    | some pr =>
      obtain ⟨i0, ds0⟩ := pr
      rw [q0] at h9
      dsimp only at h9
      obtain ⟨ep, hl, hS1⟩ := lentI_at q0
      obtain ⟨xs, ds, items⟩ := p
      dsimp only at *
      subst ep
      refine ⟨Z, S, fr, ?_⟩
      rw [q]
      intro J vs H1 g1 pk1 wk
      dsimp only at *
      obtain ⟨a, ha⟩ := hL.pos i0 hl
      have eds : ds = [.lst ds0] := by
        simp only [pks, pk, hS1, Option.bind_some] at pk1
        exact (Option.some.inj pk1).symm
      subst eds
      obtain ⟨v0, ev, arv⟩ : ∃ v0, vs = [v0] ∧ σ[i0]? = some (some v0) := by
        have := g1.ar
        cases this with
        | cons a1 r1 => cases r1; exact ⟨_, rfl, a1⟩
      subst ev
      have e0 : v0 = .ref a := by
        have := (g1.step.fr.lnt i0 a ha).1
        rw [this] at arv
        cases arv; rfl
      subst e0
      have z0 : ∀ b, Z b → Zt Z (tmpAs [V.ref a] [Arg.ref i0]) b := zl
      have s1 : Step c Z σ H S σ H1 S1 := g1.step.sub z0
      -- what a turn finds
      have see : ∀ {σ' : Slots} {H' : Hp} {S' : FS}, Fr c Z σ' H' S' → chkR S' [.ref i0] [.lst ds0] = true → Vws c.K H' (OO σ' S' Z) [V.ref a] [.lst ds0] := fun {σ' H' S'} f k => by
        simp only [chkR, Bool.and_true] at k
        split at k
        · rename_i es q5
          have e := eqT_eq k
          cases e
          obtain ⟨v, e1, r⟩ := f.rel i0 _ q5
          rw [(f.lnt i0 a ha).1] at e1
          cases e1
          obtain ⟨p, xs, e2, hp, r2⟩ := r
          cases e2
          exact .cons ⟨_, xs, rfl, .of hp, r2⟩ .nil
        · cases k
      refine ⟨fun i m σ' H' => m + i = items.length ∧ ∃ S', Step c Z σ H S σ' H' S' ∧ PostS c W Z σ H S (forKL i0 ds0 L tg f (items.drop i) S') E, ⟨items.length, rfl, S1, s1, h9⟩, ?_⟩
      rintro i m σ3 H3 ⟨em, S3, s3, h3⟩
      by_cases hi : i < items.length
      · rw [List.drop_eq_getElem_cons hi] at h3
        simp only [forKL] at h3
        split at h3
        · rename_i ck
          have vw := see s3.fr ck
          refine .inr ⟨wk.go H3 _ i vw hi, fun σ' H' => ∃ m', m' < m ∧ m' + (i + 1) = items.length ∧ ∃ S', Step c Z σ H S σ' H' S' ∧ PostS c W Z σ H S (forKL i0 ds0 L tg f (items.drop (i + 1)) S') E,
            fun σ' H' ⟨m', lt, e, r⟩ => ⟨m', lt, e, r⟩, fun x H4 y => ?_⟩
          have nw := wk.yld H3 _ i x H4 _ vw (List.getElem?_eq_getElem hi) y
          have gx := got_new s3.fr s3.fr.step (fun _ h => h) nw
          have z0 : ∀ a, Z a → Zt Z (tmpA x (.tmp (.val items[i]))) a := zl
          have s4 : Step c Z σ3 H3 S3 σ3 H4 S3 := gx.step.sub z0
          have rx : Rp c.K H4 (OO σ3 S3 Z) x items[i] := Rp.mono (fun _ _ e _ => e) (fun a z => .inl (z.elim .inl fun q => .inr (z0 a q))) gx.ar
          cases q2 : asg L tg items[i] S3 with
          | none => rw [q2] at h3; exact h3.elim
          | some S4 =>
            rw [q2] at h3
            refine ⟨Z, S3, items[i], S4, s4.fr, rx, q2, fun σ5 s5 _ => ?_⟩
            have s35 := (s3.trans s4).trans s5
            refine ⟨Z, S4, s5.fr, ?_⟩
            have h3 : PostS c W Z σ H S (match f S4 with
              | .nx S2 => forKL i0 ds0 L tg f (items.drop (i + 1)) S2
              | .ct S2 => forKL i0 ds0 L tg f (items.drop (i + 1)) S2
              | .bk S2 => .nx S2
              | o => o) E := h3
            have again : ∀ S6, PostS c W Z σ H S (forKL i0 ds0 L tg f (items.drop (i + 1)) S6) E → ∀ σ' H', Step c Z σ5 H4 S4 σ' H' S6 → ∃ m', m' < m ∧ m' + (i + 1) = items.length ∧ ∃ S', Step c Z σ H S σ' H' S' ∧ PostS c W Z σ H S (forKL i0 ds0 L tg f (items.drop (i + 1)) S') E :=
              fun S6 h6 σ' H' s6 => ⟨m - 1, by omega, by omega, S6, s35.trans s6, h6⟩
            cases q3 : f S4 with
            | nx S6 => rw [q3] at h3; exact again S6 h3
            | ct S6 => rw [q3] at h3; exact again S6 h3
            | bk S6 => rw [q3] at h3; exact fun σ' H' st => h3 σ' H' (s35.trans st)
            | rt r S6 => rw [q3] at h3; exact fun v σ' H' st => h3 v σ' H' (st.after s35)
            | ex k S6 => rw [q3] at h3; exact fun σ' H' st => h3 σ' H' (s35.trans st)
            | no => rw [q3] at h3; exact h3
        · exact h3.elim
      · have ei : i = items.length := by omega
        subst ei
        rw [List.drop_length] at h3
        simp only [forKL] at h3
        split at h3
        · rename_i ck
          exact .inl ⟨wk.stop H3 _ (see s3.fr ck), h3 σ3 H3 s3⟩
        · exact h3.elim
end

/-! ### list comprehensions -/
def wipeS : FS → List Nat → FS
  | S, [] => S
  | S, v :: vs => st (wipeS S vs) v none
def restS (S0 : FS) : FS → List Nat → FS
  | S, [] => S
  | S, v :: vs => st (restS S0 S vs) v (gt S0 v)
def ownFree (S : FS) (L : List Bool) (own : List Nat) : Bool := own.all fun i => !isOwn S i && !isL L i
def lcL (L : List Bool) (xs : List Arg) (ds : List D) (tg : Tg) (cond : FT) (elt : FE) (own : List Nat) : List D → List D → FS → R (List D)
  | [], acc, S => if chkR S xs ds = true then .ok acc S else .no
  | d :: items, acc, S => if chkR S xs ds = true then match asg L tg d S with
      | none => .no
      | some S1 => match cond S1 with
        | .ok true S2 => match elt S2 with
          | .ok x S3 => match tk S3 x with
            | some (e, S4) => if acc.length < lineN ∧ ownFree S4 L own = true then lcL L xs ds tg cond elt own items (acc ++ [e]) (wipeS S4 own) else .no
            | none => .no
          | _ => .no
        | .ok false S2 => if ownFree S2 L own = true then lcL L xs ds tg cond elt own items acc (wipeS S2 own) else .no
        | _ => .no
    else .no
def rLc (L : List Bool) (fi : FI) (tg : Tg) (cond : FT) (elt : FE) (own : List Nat) : FE := fun S => (fi S).bind fun p S1 => if ownFree S1 L own = true then
    (lcL L (p.1.map (norm S1)) p.2.1 tg cond elt own p.2.2 [] (wipeS S1 own)).bind fun acc S2 => .ok (.tmp (.own acc)) (restS S1 S2 own)
  else .no
section
variable {c : FCx} {W : WX} {Z Z2 : Addr → Prop} {σ σ' : Slots} {H H' H1 : Hp} {S S' S1 : FS} {O O' : Addr → Prop} {L : List Bool}
theorem wipe_len : ∀ (S : FS) (vs : List Nat), (wipeS S vs).length = S.length
  | _, [] => rfl
  | S, v :: vs => by simp only [wipeS, st_len, wipe_len S vs]
theorem wipeS_gt : ∀ (S : FS) (vs : List Nat) (i : Nat), gt (wipeS S vs) i = if i ∈ vs then none else gt S i
  | S, [], i => by simp [wipeS]
  | S, v :: vs, i => by
    simp only [wipeS, gt_st, wipeS_gt S vs i, wipe_len]
    by_cases e : v = i
    · subst e; simp
    · rw [if_neg e]
      have : i ∈ v :: vs ↔ i ∈ vs := by simp [Ne.symm e]
      simp only [this]
theorem restS_gt : ∀ (S0 S : FS) (vs : List Nat) (i : Nat), S0.length = S.length → gt (restS S0 S vs) i = if i ∈ vs then gt S0 i else gt S i
  | S0, S, [], i, _ => by simp [restS]
  | S0, S, v :: vs, i, hl => by
    have l2 : (restS S0 S vs).length = S.length := by
      clear hl
      induction vs with
      | nil => rfl
      | cons v vs ih => simp only [restS, st_len, ih]
    simp only [restS, gt_st, restS_gt S0 S vs i hl, l2]
    by_cases e : v = i
    · subst e
      rw [if_pos rfl]
      by_cases hv : v < S.length
      · rw [if_pos hv]; simp
      · rw [if_neg hv]
        have : gt S0 v = none := by
          cases q : gt S0 v with
          | none => rfl
          | some w => exact (hv (by rw [← hl]; exact gt_lt q)).elim
        simp [this]
    · rw [if_neg e]
      have : i ∈ v :: vs ↔ i ∈ vs := by simp [Ne.symm e]
      simp only [this]
theorem restS_len (S0 : FS) : ∀ (S : FS) (vs : List Nat), (restS S0 S vs).length = S.length
  | _, [] => rfl
  | S, v :: vs => by simp only [restS, st_len, restS_len S0 S vs]
theorem wipe_in {σ : Slots} {i : Nat} : ∀ {vs : List Nat}, i ∈ vs → i < σ.length → (wipe σ vs)[i]? = some none
  | v :: vs, h, hl => by
    unfold wipe
    by_cases e : v = i
    · subst e
      rw [List.getElem?_set_self (by rw [wipe_length]; exact hl)]
    · rw [List.getElem?_set_ne e]
      exact wipe_in ((List.mem_cons.mp h).resolve_left (Ne.symm e)) hl
/-- the block's own names are forgotten: nothing is lost -/
theorem Fr.wiped (hL : LOk c L) (f : Fr c Z σ H S) {own : List Nat} (ho : ownFree S L own = true) : Fr c Z (wipe σ own) H (wipeS S own) ∧ (∀ a, Own (wipe σ own) (wipeS S own) a ↔ Own σ S a) := by
  have hf : ∀ i ∈ own, isOwn S i = false ∧ isL L i = false := fun i hi => by
    have := List.all_eq_true.mp ho i hi
    simpa using this
  have no : ∀ i ds, gt S i = some (.own ds) → i ∉ own := fun i ds h hi => by
    have := (hf i hi).1
    simp [isOwn, h] at this
  have ow : ∀ a, Own (wipe σ own) (wipeS S own) a ↔ Own σ S a := fun a => by
    refine ⟨fun ⟨i, ds, h1, h2⟩ => ?_, fun ⟨i, ds, h1, h2⟩ => ?_⟩
    · rw [wipeS_gt] at h1
      split at h1
      · cases h1
      · rename_i hi
        rw [wipe_out hi] at h2
        exact ⟨i, ds, h1, h2⟩
    · have hi := no i ds h1
      exact ⟨i, ds, by rw [wipeS_gt, if_neg hi]; exact h1, by rw [wipe_out hi]; exact h2⟩
  have gO : ∀ a, OO (wipe σ own) (wipeS S own) Z a → OO σ S Z a ∨ H a = none := fun a z => .inl (z.imp (ow a).mp id)
  refine ⟨⟨by rw [wipe_length, wipe_len]; exact f.len, fun i sv h => ?_, fun i j ds es a h1 h2 h3 h4 => ?_, fun a h => f.own a ((ow a).mp h), f.keep, f.tr0, f.ztr, fun i a h => ?_⟩, ow⟩
  · rw [wipeS_gt] at h
    split at h
    · cases h
    · rename_i hi
      obtain ⟨v, e, r⟩ := f.rel i sv h
      exact ⟨v, by rw [wipe_out hi]; exact e, r.mono (fun _ _ e _ => e) gO fun _ _ _ _ _ e => e⟩
  · rw [wipeS_gt] at h1 h2
    split at h1
    · cases h1
    · split at h2
      · cases h2
      · rename_i hi hj
        rw [wipe_out hi] at h3
        rw [wipe_out hj] at h4
        exact f.inj i j ds es a h1 h2 h3 h4
  · obtain ⟨h1, ⟨sv, h2⟩, h3, h4⟩ := f.lnt i a h
    have hi : i ∉ own := fun hi => by
      have := hL.pin i (hf i hi).2
      rw [this] at h; cases h
    refine ⟨by rw [wipe_out hi]; exact h1, ⟨sv, by rw [wipeS_gt, if_neg hi]; exact h2⟩, h3, fun j ds q1 q2 => ?_⟩
    rw [wipeS_gt] at q1
    split at q1
    · cases q1
    · rename_i hj
      rw [wipe_out hj] at q2
      exact h4 j ds q1 q2
/-- .. and come back -/
theorem Fr.unwiped {own : List Nat} (f0 : Fr c Z2 σ H S) (ho : ownFree S L own = true) (hZ : ∀ a, Z a → Z2 a ∨ H a = none) (s : Step c Z (wipe σ own) H (wipeS S own) (wipe σ own) H' S') (hw : ∀ i ∈ own, gt S' i = none) :
    Step c Z σ H S σ H' (restS S S' own) ∧ ∀ a, Own σ (restS S S' own) a → Own (wipe σ own) S' a := by
  have hf : ∀ i ∈ own, isOwn S i = false := fun i hi => by
    have := List.all_eq_true.mp ho i hi
    simp at this
    exact this.1
  have ln : S.length = S'.length := by rw [← f0.len, ← s.fr.len, wipe_length]
  have g : ∀ i, gt (restS S S' own) i = if i ∈ own then gt S i else gt S' i := fun i => restS_gt S S' own i ln
  have owA : ∀ a, Own σ (restS S S' own) a ↔ Own (wipe σ own) S' a := fun a => by
    refine ⟨fun ⟨i, ds, h1, h2⟩ => ?_, fun ⟨i, ds, h1, h2⟩ => ?_⟩
    · rw [g] at h1
      split at h1
      · rename_i hi
        have := hf i hi
        simp [isOwn, h1] at this
      · rename_i hi
        exact ⟨i, ds, h1, by rw [wipe_out hi]; exact h2⟩
    · have hi : i ∉ own := fun hi => by rw [hw i hi] at h1; cases h1
      exact ⟨i, ds, by rw [g, if_neg hi]; exact h1, by rw [wipe_out hi] at h2; exact h2⟩
  have ow0 : ∀ a, Own (wipe σ own) (wipeS S own) a → Own σ S a := fun a ⟨i, ds, h1, h2⟩ => by
    rw [wipeS_gt] at h1
    split at h1
    · cases h1
    · rename_i hi
      rw [wipe_out hi] at h2
      exact ⟨i, ds, h1, h2⟩
  have kp : ∀ a o, H a = some o → ¬ Own σ S a → H' a = some o := fun a o e n => s.keep a o e fun z => n (ow0 a z)
  have oww : ∀ a, Own σ (restS S S' own) a → Own σ S a ∨ H a = none := fun a z => (s.ow a ((owA a).mp z)).imp (ow0 a) id
  have gO : ∀ a, OO σ (restS S S' own) Z a → OO σ S Z2 a ∨ H a = none := fun a z => by
    rcases z with z | z
    · exact (oww a z).imp .inl id
    · exact (hZ a z).imp .inr id
  have gO' : ∀ a, OO σ (restS S S' own) Z a → OO (wipe σ own) S' Z a ∨ H' a = none := fun a z => .inl (z.imp (owA a).mp id)
  refine ⟨⟨⟨by rw [restS_len, ← ln, f0.len], fun i sv h => ?_, fun i j ds es a h1 h2 h3 h4 => ?_, fun a h => s.fr.own a ((owA a).mp h), s.fr.keep, s.fr.tr0, s.fr.ztr, fun i a h => ?_⟩, kp, oww, s.tr⟩, fun a => (owA a).mp⟩
  · rw [g] at h
    split at h
    · rename_i hi
      obtain ⟨v, e, r⟩ := f0.rel i sv h
      refine ⟨v, e, r.mono (fun a o e n => kp a o e fun z => n (.inl z)) gO fun a ds xs e1 _ _ => ?_⟩
      have := hf i hi
      subst e1
      simp [isOwn, h] at this
    · rename_i hi
      obtain ⟨v, e, r⟩ := s.fr.rel i sv h
      exact ⟨v, by rw [wipe_out hi] at e; exact e, r.mono (fun _ _ e _ => e) gO' fun _ _ _ _ _ e => e⟩
  · have key : ∀ {i ds}, gt (restS S S' own) i = some (.own ds) → gt S' i = some (.own ds) ∧ i ∉ own := fun {i ds} q => by
      rw [g] at q
      split at q
      · rename_i hi
        have := hf i hi
        simp [isOwn, q] at this
      · rename_i hi; exact ⟨q, hi⟩
    obtain ⟨k1, i1⟩ := key h1
    obtain ⟨k2, i2⟩ := key h2
    exact s.fr.inj i j ds es a k1 k2 (by rw [wipe_out i1]; exact h3) (by rw [wipe_out i2]; exact h4)
  · obtain ⟨h1, ⟨sv, h2⟩, h3, h4⟩ := s.fr.lnt i a h
    have hi : i ∉ own := fun hi => by rw [hw i hi] at h2; cases h2
    refine ⟨by rw [wipe_out hi] at h1; exact h1, ⟨sv, by rw [g, if_neg hi]; exact h2⟩, h3, fun j ds q1 q2 => ?_⟩
    rw [g] at q1
    split at q1
    · rename_i hj
      have := hf j hj
      simp [isOwn, q1] at this
    · rename_i hj
      exact h4 j ds q1 (by rw [wipe_out hj]; exact q2)
/-- the list that grows -/
theorem Fr.zwrite (f : Fr c Z σ H S) {p : Addr} {o : HO} (hz : Z p) (h0 : c.H0 p = none) : Fr c Z σ (upd H p o) S := by
  have k : ∀ a u, H a = some u → a ≠ p → upd H p o a = some u := fun a u e n => by rw [upd_ne n]; exact e
  have tr : ∀ a, H a ≠ none → upd H p o a ≠ none := fun a n => by
    by_cases e : a = p
    · subst e; exact upd_some
    · rw [upd_ne e]; exact n
  refine ⟨f.len, fun i sv h => ?_, f.inj, f.own, fun a u e n => ?_, fun a n => tr a (f.tr0 a n), fun a z => tr a (f.ztr a z), fun i a h => ?_⟩
  · obtain ⟨v, e, r⟩ := f.rel i sv h
    refine ⟨v, e, r.mono (fun a u e n => k a u e fun z => n (.inr (z ▸ hz))) (fun _ z => .inl z) fun a ds xs e1 e2 e3 => k a _ e3 fun z => ?_⟩
    subst e1; subst e2; subst z
    exact (f.own _ ⟨i, ds, h, e⟩).2 hz
  · refine k a u (f.keep a u e n) fun z => ?_
    subst z; rw [h0] at e; cases e
  · obtain ⟨h1, h2, h3, h4⟩ := f.lnt i a h
    exact ⟨h1, h2, tr a h3, h4⟩
end
end FL

set_option maxRecDepth 100000
set_option maxHeartbeats 4000000
/-! list comprehensions. -/
namespace FL
open PySem PySem.Spec PyProof.Rows L2

abbrev WF : WX := fun _ _ _ _ => False
theorem wipe_ext {σ σ2 : Slots} {own : List Nat} (h : ∀ j, j ∉ own → σ2[j]? = (wipe σ own)[j]?) (hl : σ2.length = σ.length) : wipe σ2 own = wipe σ own := by
  refine List.ext_getElem? fun j => ?_
  by_cases hj : j ∈ own
  · by_cases hi : j < σ.length
    · rw [wipe_in hj (by rw [hl]; exact hi), wipe_in hj hi]
    · rw [List.getElem?_eq_none (by rw [wipe_length, hl]; omega), List.getElem?_eq_none (by rw [wipe_length]; omega)]
  · rw [wipe_out hj, h j hj]
section
variable {c : FCx} {W : WX} {Z Z2 : Addr → Prop} {σ σ' : Slots} {H H' H1 : Hp} {S S' S1 : FS} {O O' : Addr → Prop} {L : List Bool}
theorem tmpAs_norm {S : FS} : ∀ (vs : List V) (xs : List Arg), tmpAs vs (xs.map (norm S)) = tmpAs vs xs
  | [], xs => by cases xs <;> rfl
  | v :: vs, [] => rfl
  | v :: vs, x :: xs => by
    have e : tmpA v (norm S x) = tmpA v x := by
      cases x with
      | tmp s => rfl
      | ref i =>
        unfold norm
        dsimp only
        split
        · rw [tmpA_val]; cases v <;> rfl
        · rfl
    simp only [List.map_cons, tmpAs, e, tmpAs_norm vs xs]
/-- args as they are walked: in the block's own frame -/
theorem ARs_block {own : List Nat} (f : Fr c Z σ H S) (ho : ownFree S L own = true) (k : ∀ a o, H a = some o → H' a = some o) (g : ∀ a, O' a → OO σ S Z a ∨ H a = none) : ∀ {vs : List V} {xs : List Arg}, ARs c (OO σ S Z) σ H vs xs → pks S xs ≠ none → ARs c O' (wipe σ own) H' vs (xs.map (norm S))
  | _, _, .nil, _ => .nil
  | v :: _, x :: xs, .cons a r, hp => by
    have hp1 : pk S x ≠ none := fun e => hp (by simp [pks, e])
    have hp2 : pks S xs ≠ none := fun e => hp (by
      cases q : pk S x with
      | none => simp [pks, q]
      | some d => simp [pks, q, e])
    refine .cons ?_ (ARs_block f ho k g r hp2)
    have hval : ∀ {d}, SR c.K H (OO σ S Z) v (.val d) → SR c.K H' O' v (.val d) := fun h => Rp.mono (fun a o e _ => k a o e) g h
    cases x with
    | tmp s => exact SR.mono a (fun a o e _ => k a o e) g fun a _ _ _ _ e => k a _ e
    | ref i =>
      have a : σ[i]? = some (some v) := a
      unfold norm
      dsimp only
      split
      · rename_i d q
        obtain ⟨u, e1, r'⟩ := f.rel i _ q
        rw [a] at e1; cases e1
        exact hval r'
      · rename_i nq
        have hi : i ∉ own := fun hi => by
          have := List.all_eq_true.mp ho i hi
          simp only [Bool.and_eq_true, Bool.not_eq_true'] at this
          cases q : gt S i with
          | none => exact hp1 (by simp [pk, q])
          | some sv =>
            cases sv with
            | val d => exact nq d q
            | own ds => simp [isOwn, q] at this
        show (wipe σ own)[i]? = some (some v)
        rw [wipe_out hi]
        exact a
theorem ARs_on : ∀ {vs : List V} {xs : List Arg}, ARs c O σ H vs xs → (∀ a o, H a = some o → ¬ O a → H' a = some o) → (∀ a, O' a → O a ∨ H a = none) → (∀ a ∈ tmpAs vs xs, ∀ o, H a = some o → H' a = some o) → ARs c O' σ H' vs xs
  | _, _, .nil, _, _, _ => .nil
  | v :: vs, x :: xs, .cons a r, k, g, ko => .cons (a.mono k g fun b hb => ko b (List.mem_append_left _ hb)) (ARs_on r k g fun b hb => ko b (List.mem_append_right _ hb))
end

mutual
theorem asg_len {L : List Bool} : ∀ (tg : Tg) {d : D} {S S' : FS}, asg L tg d S = some S' → S'.length = S.length
  | .nm i, d, S, S', h => by
    simp only [asg] at h
    split at h
    · cases h; exact st_len _ _ _
    · cases h
  | .tp ts, d, S, S', h => by
    cases d with
    | tup ds => exact asgs_len ts (by simpa [asg] using h)
    | _ => simp [asg] at h
theorem asgs_len {L : List Bool} : ∀ (ts : List Tg) {ds : List D} {S S' : FS}, asgs L ts ds S = some S' → S'.length = S.length
  | [], ds, S, S', h => by
    cases ds with
    | nil => cases h; rfl
    | cons => simp [asgs] at h
  | t :: ts, ds, S, S', h => by
    cases ds with
    | nil => simp [asgs] at h
    | cons d ds =>
      simp only [asgs, Option.bind_eq_some_iff] at h
      obtain ⟨S1, h1, h2⟩ := h
      rw [asgs_len ts h2, asg_len t h1]
end
theorem lc_imp {K : PySem.W.Frag} {c : FCx} {W : WX} {L : List Bool} {fi : FI} {tg : Tg} {cond : FT} {elt : FE} {own : List Nat} {σ : Slots} {H : Hp} {Q : VK} (hL : LOk c L) (htg : ∀ j ∈ tg.slots, j ∈ own)
    (h : tE c W (rLc L fi tg cond elt own) σ H Q) : tLc (tI c W fi) (tG c (asg L tg) tg.slots) (tT c WF cond) (tE c WF elt) own σ H Q := by
  obtain ⟨Z, S, fr, h⟩ := h
  refine ⟨Z, S, fr, ?_⟩
  unfold rLc at h
  cases q : fi S with
  | no => rw [q] at h; exact h.elim
  | ex k S1 => rw [q] at h; exact h
  | ok p S1 =>
    rw [q] at h
    intro J vs H1 g1 pk1 wk D hD
    obtain ⟨xs, ds, items⟩ := p
    dsimp only at *
    have h : PostE c W Z σ H S (if ownFree S1 L own = true then
      (lcL L (xs.map (norm S1)) ds tg cond elt own items [] (wipeS S1 own)).bind fun acc S2 => .ok (.tmp (.own acc)) (restS S1 S2 own)
      else .no) Q := h
    by_cases ho : ownFree S1 L own = true
    case neg => rw [if_neg ho] at h; exact h.elim
    rw [if_pos ho] at h
    have tok := pks_tmpOk pk1
    -- what is forbidden within
    have frl := g1.step.fr
    have h0D : c.H0 D = none := by
      cases q : c.H0 D with
      | none => rfl
      | some o => exact (frl.tr0 D (by rw [q]; intro z; cases z) hD).elim
    have kD := upd_keep (o := .lst []) hD
    have frd : Fr c (fun a => Zt Z (tmpAs vs xs) a ∨ a = D) σ (upd H1 D (.lst [])) S1 := frl.add (fun a z => by
      rcases z with z | z
      · exact trk_mono kD a (frl.ztr a z)
      · subst z; exact upd_some) (fun a z => by
      rcases z with z | z
      · exact .inl z
      · subst z; exact .inr hD) kD
    obtain ⟨frw, oww⟩ := frd.wiped hL ho
    have oww1 : ∀ a, Own (wipe σ own) (wipeS S1 own) a ↔ Own σ S1 a := oww
    have TD : ∀ a ∈ tmpAs vs xs, a ≠ D := fun a ha z => by subst z; exact frl.ztr _ (.inr ha) hD
    have ar0 : ARs c (OO (wipe σ own) (wipeS S1 own) fun a => Zt Z (tmpAs vs xs) a ∨ a = D) (wipe σ own) (upd H1 D (.lst [])) vs (xs.map (norm S1)) := ARs_block frl ho kD (fun a z => by
      rcases z with z | z | z
      · exact .inl (.inl ((oww1 a).mp z))
      · exact .inl (.inr z)
      · subst z; exact .inr hD) g1.ar (by rw [pk1]; intro z; cases z)
    have nm : tmpAs vs (xs.map (norm S1)) = tmpAs vs xs := tmpAs_norm vs xs
    generalize hZd : (fun a => Zt Z (tmpAs vs xs) a ∨ a = D) = Zd at *
    have zD : Zd D := by rw [← hZd]; exact .inr rfl
    have zT : ∀ a ∈ tmpAs vs xs, Zd a := fun a ha => by rw [← hZd]; exact .inl (.inr ha)
    have zL : ∀ a, Z a → Zd a := fun a ha => by rw [← hZd]; exact .inl (.inl ha)
    refine ⟨fun i m H' => m + i = items.length ∧ ∃ S' acc dacc, Step c Zd (wipe σ own) H1 (wipeS S1 own) (wipe σ own) H' S' ∧ ARs c (OO (wipe σ own) S' Zd) (wipe σ own) H' vs (xs.map (norm S1)) ∧ H' D = some (.lst acc) ∧ Rps c.K H' (OO (wipe σ own) S' Zd) acc dacc ∧
        (∀ j ∈ own, gt S' j = none) ∧ PostE c W Z σ H S ((lcL L (xs.map (norm S1)) ds tg cond elt own (items.drop i) dacc S').bind fun acc S2 => .ok (.tmp (.own acc)) (restS S1 S2 own)) Q,
      ⟨items.length, rfl, wipeS S1 own, [], [], ⟨frw, fun a o e _ => kD a o e, fun a z => .inl z, fun a n => trk_mono kD a n⟩, ar0, upd_same, .nil, fun j hj => by rw [wipeS_gt, if_pos hj], h⟩, ?_⟩
    rintro i m H2 ⟨em, S2, acc, dacc, st2, ar2, hD2, racc, hw2, h2⟩
    have chk : chkR S2 (xs.map (norm S1)) ds = true := by
      cases q : items.drop i with
      | nil =>
        rw [q] at h2
        simp only [lcL] at h2
        split at h2
        · assumption
        · exact h2.elim
      | cons d r =>
        rw [q] at h2
        simp only [lcL] at h2
        split at h2
        · assumption
        · exact h2.elim
    have vw := pks_vws st2.fr ar2 (chk_pks tok chk)
    by_cases hi : i < items.length
    · refine .inr ⟨wk.go H2 _ i vw hi, fun H' => ∃ m', m' < m ∧ m' + (i + 1) = items.length ∧ ∃ S' acc dacc, Step c Zd (wipe σ own) H1 (wipeS S1 own) (wipe σ own) H' S' ∧ ARs c (OO (wipe σ own) S' Zd) (wipe σ own) H' vs (xs.map (norm S1)) ∧ H' D = some (.lst acc) ∧ Rps c.K H' (OO (wipe σ own) S' Zd) acc dacc ∧
        (∀ j ∈ own, gt S' j = none) ∧ PostE c W Z σ H S ((lcL L (xs.map (norm S1)) ds tg cond elt own (items.drop (i + 1)) dacc S').bind fun acc S2 => .ok (.tmp (.own acc)) (restS S1 S2 own)) Q, fun H' ⟨m', lt, e, r⟩ => ⟨m', lt, e, r⟩, fun x H3 y => ?_⟩
      rw [List.drop_eq_getElem_cons hi] at h2
      simp only [lcL] at h2
      rw [if_pos chk] at h2
      have nw := wk.yld H2 _ i x H3 _ vw (List.getElem?_eq_getElem hi) y
      have gx := got_new st2.fr st2.fr.step (fun _ h => h) nw
      have s3 : Step c Zd (wipe σ own) H2 S2 (wipe σ own) H3 S2 := gx.step.sub zl
      have rx : Rp c.K H3 (OO (wipe σ own) S2 Zd) x items[i] := Rp.mono (fun _ _ e _ => e) (fun a z => .inl (z.elim .inl fun q => .inr (zl a q))) gx.ar
      cases q2 : asg L tg items[i] S2 with
      | none => rw [q2] at h2; exact h2.elim
      | some S3 =>
        rw [q2] at h2
        refine ⟨Zd, S2, items[i], S3, s3.fr, rx, q2, fun σ2 s4 k4 => ?_⟩
        have ew : wipe σ2 own = wipe σ own := by
          refine wipe_ext (fun j hj => k4 j fun z => hj (htg j z)) ?_
          have e1 := s4.fr.len
          have e2 := s3.fr.len
          rw [wipe_length] at e2
          rw [e1, e2, asg_len _ q2]
        refine ⟨ew, Zd, S3, s4.fr, ?_⟩
        dsimp only at h2
        -- a turn's end
        have fin : ∀ {H5 : Hp} {S5 : FS} {acc' : List V} {dacc' : List FL.D}, Step c Zd (wipe σ own) H2 S2 σ2 H5 S5 → ownFree S5 L own = true → Rps c.K H5 (OO σ2 S5 Zd) acc' dacc' →
            PostE c W Z σ H S ((lcL L (xs.map (norm S1)) ds tg cond elt own (items.drop (i + 1)) dacc' (wipeS S5 own)).bind fun acc S2 => .ok (.tmp (.own acc)) (restS S1 S2 own)) Q →
            ∃ m', m' < m ∧ m' + (i + 1) = items.length ∧ ∃ S' acc dacc, Step c Zd (wipe σ own) H1 (wipeS S1 own) (wipe σ own) (upd H5 D (.lst acc')) S' ∧ ARs c (OO (wipe σ own) S' Zd) (wipe σ own) (upd H5 D (.lst acc')) vs (xs.map (norm S1)) ∧ upd H5 D (.lst acc') D = some (.lst acc) ∧
              Rps c.K (upd H5 D (.lst acc')) (OO (wipe σ own) S' Zd) acc dacc ∧ (∀ j ∈ own, gt S' j = none) ∧ PostE c W Z σ H S ((lcL L (xs.map (norm S1)) ds tg cond elt own (items.drop (i + 1)) dacc S').bind fun acc S2 => .ok (.tmp (.own acc)) (restS S1 S2 own)) Q := by
          intro H5 S5 acc' dacc' s5 ho5 ra h5
          obtain ⟨f6, ow6⟩ := s5.fr.wiped hL ho5
          rw [ew] at f6 ow6
          have s15 := st2.trans s5
          have nD : ∀ a, H1 a ≠ none → a ≠ D := fun a n z => by subst z; exact n hD
          have kk : ∀ a o, H5 a = some o → a ≠ D → upd H5 D (.lst acc') a = some o := fun a o e n => by rw [upd_ne n]; exact e
          refine ⟨m - 1, by omega, by omega, wipeS S5 own, acc', dacc', ⟨f6.zwrite zD h0D, fun a o e n => kk a o (s15.keep a o e n) (nD a (by rw [e]; intro z; cases z)), fun a z => s15.ow a ((ow6 a).mp z), fun a n => ?_⟩, ?_, upd_same, ?_, fun j hj => by rw [wipeS_gt, if_pos hj], h5⟩
          · rw [upd_ne (nD a n)]; exact s15.tr a n
          · refine ARs_on ar2 (fun a o e n => kk a o (s5.kO a o e n) fun z => n (.inr (z ▸ zD))) (fun a z => ?_) fun a ha o e => ?_
            · rcases z with z | z
              · exact (s5.ow a ((ow6 a).mp z)).imp .inl id
              · exact .inl (.inr z)
            · rw [nm] at ha
              exact kk a o (s5.keep a o e fun z => (st2.fr.own a z).2 (zT a ha)) (TD a ha)
          · exact ra.mono (fun a o e n => kk a o e fun z => n (.inr (z ▸ zD))) fun a z => .inl (z.imp (ow6 a).mp id)
        have keepD : ∀ {H5 : Hp} {S5 : FS}, Step c Zd (wipe σ own) H2 S2 σ2 H5 S5 → H5 D = some (.lst acc) ∧ Rps c.K H5 (OO σ2 S5 Zd) acc dacc := fun s5 =>
          ⟨s5.keep D _ hD2 fun z => (st2.fr.own D z).2 zD, s5.rps (fun _ z => .inl z) racc⟩
        have s34 := s3.trans s4
        cases q3 : cond S3 with
        | no => rw [q3] at h2; exact h2.elim
        | ex k S4 => rw [q3] at h2; exact h2.elim
        | ok b S4 =>
          rw [q3] at h2
          intro H4 st4
          have s44 := s34.trans st4
          cases b with
          | false =>
            rw [if_neg Bool.false_ne_true]
            dsimp only at h2
            split at h2
            · rename_i ho4
              obtain ⟨kd, ra⟩ := keepD s44
              have := fin s44 ho4 ra h2
              have e : upd H4 D (.lst acc) = H4 := by
                funext a
                by_cases ea : a = D
                · subst ea; rw [upd_same, kd]
                · rw [upd_ne ea]
              rw [e] at this
              exact this
            · exact h2.elim
          | true =>
            rw [if_pos rfl]
            dsimp only at h2
            refine ⟨Zd, S4, st4.fr, ?_⟩
            cases q4 : elt S4 with
            | no => rw [q4] at h2; exact h2.elim
            | ex k S5 => rw [q4] at h2; exact h2.elim
            | ok x' S5 =>
              rw [q4] at h2
              dsimp only at h2
              intro y' H5 g5
              split at h2
              · rename_i e' S6 q5
                split at h2
                · rename_i hz
                  obtain ⟨s6, ry⟩ := g5.taken st4.fr q5
                  have s46 := s44.trans s6
                  obtain ⟨kd, ra⟩ := keepD s46
                  refine ⟨acc, kd, by rw [ra.length, ← lineN_eq]; exact hz.1, ?_⟩
                  exact fin s46 hz.2 (ra.append (.cons ry .nil)) h2
                · exact h2.elim
              · exact h2.elim
    · have ei : i = items.length := by omega
      subst ei
      rw [List.drop_length] at h2
      simp only [lcL] at h2
      rw [if_pos chk] at h2
      have zi : ∀ a, Zt Z [D] a → Zd a := fun a z => by
        rcases z with z | z
        · exact zL a z
        · have : a = D := by simpa using z
          subst this; exact zD
      obtain ⟨s5, ow5⟩ := Fr.unwiped (Z := Zt Z [D]) frl ho (fun a z => by
        rcases z with z | z
        · exact .inl (.inl z)
        · have : a = D := by simpa using z
          subst this; exact .inr hD) (st2.sub zi) hw2
      refine .inl ⟨wk.stop H2 _ vw, h2 (.ref D) H2 ⟨g1.step.trans s5, ⟨D, acc, rfl, hD2, racc.mono (fun _ _ e _ => e) fun a z => .inl (z.imp (ow5 a) (zi a))⟩, fun a ha => ?_⟩⟩
      have : a = D := by simpa [tmpA] using ha
      subst this
      exact g1.step.non hD
end FL

set_option maxRecDepth 100000
set_option maxHeartbeats 4000000
/-! Calls: what a function takes and gives back. -/
namespace FL
open PySem PySem.Spec PyProof.Rows L2

inductive CR where
  | ok (r : Sv) (outs : List (Option Sv)) | ex (k : Nat) (outs : List (Option Sv)) | no
/-- the lists that are lent -/
def Lt (vs : List V) (ss : List Sv) (a : Addr) : Prop := ∃ (i : Nat) (ds : Bx), vs[i]? = some (V.ref a) ∧ ss[i]? = some (Sv.own ds)
def Kept (vs : List V) (ss : List Sv) (outs : List (Option Sv)) (a : Addr) : Prop := ∃ (i : Nat) (ds ds' : Bx), vs[i]? = some (V.ref a) ∧ ss[i]? = some (Sv.own ds) ∧ outs[i]? = some (some (Sv.own ds'))
structure ArgsOk (K : PySem.W.Frag) (H : Hp) (Z : Addr → Prop) (vs : List V) (ss : List Sv) : Prop where
  len : vs.length = ss.length
  rel : ∀ (i : Nat) v s, vs[i]? = some v → ss[i]? = some s → SR K H (fun a => Lt vs ss a ∨ Z a) v s
  inj : ∀ (i j : Nat) a ds es, vs[i]? = some (V.ref a) → vs[j]? = some (V.ref a) → ss[i]? = some (Sv.own ds) → ss[j]? = some (Sv.own es) → i = j
  nz : ∀ a, Lt vs ss a → ¬ Z a
  zt : ∀ a, Z a → H a ≠ none
structure CPost (K : PySem.W.Frag) (H : Hp) (Z : Addr → Prop) (vs : List V) (ss : List Sv) (H' : Hp) (outs : List (Option Sv)) (v : V) (r : Sv) : Prop where
  keep : ∀ a o, H a = some o → ¬ Lt vs ss a → H' a = some o
  tr : ∀ a, H a ≠ none → H' a ≠ none
  back : ∀ (i : Nat) a ds, vs[i]? = some (V.ref a) → ss[i]? = some (Sv.own ds) → ∃ sv : Sv, outs[i]? = some (some sv) ∧ SR K H' (fun a => Kept vs ss outs a ∨ Z a ∨ a ∈ tmpA v (.tmp r)) (.ref a) sv
  res : SR K H' (fun a => Kept vs ss outs a ∨ Z a ∨ a ∈ tmpA v (.tmp r)) v r
  new : ∀ a ∈ tmpA v (.tmp r), H a = none
def spF (K : PySem.W.Frag) (cls : Nat → Addr) (np : Nat) (F : List Sv → CR) : Sp := fun vs H Q E => vs.length = np ∧ ∃ Z ss, ArgsOk K H Z vs ss ∧ match F ss with
  | .ok r outs => ∀ v H', CPost K H Z vs ss H' outs v r → Q v H'
  | .ex k outs => ∀ H', CPost K H Z vs ss H' outs .non (.val .non) → E (.ref (cls k)) none H'
  | .no => False

/-! ### the body -/
def lentOf (ss : List Sv) : List Bool := ss.map fun | .own _ => true | .val _ => false
def runF (np nN : Nat) (body : List Bool → FSt) : List Sv → CR := fun ss => if ss.length = np then match body (lentOf ss) (ss.map some ++ List.replicate (nN - np) none) with
    | .nx S => .ok (.val .non) (S.take np)
    | .rt r S => .ok r (S.take np)
    | .ex k S => .ex k (S.take np)
    | _ => .no
  else .no
def lentAt (vs : List V) (ss : List Sv) (i : Nat) : Option Addr := match vs[i]?, ss[i]? with
  | some (.ref a), some (.own _) => some a
  | _, _ => none
def cOf (K : PySem.W.Frag) (H : Hp) (cls : Nat → Addr) (vs : List V) (ss : List Sv) : FCx := { K := K, H0 := H, lent := lentAt vs ss, L0 := Lt vs ss, cls := cls }
theorem lentAt_some {vs : List V} {ss : List Sv} {i : Nat} {a : Addr} : lentAt vs ss i = some a ↔ ∃ ds, vs[i]? = some (V.ref a) ∧ ss[i]? = some (Sv.own ds) := by
  unfold lentAt
  split
  · rename_i b ds h1 h2
    constructor
    · intro h; cases h; exact ⟨ds, h1, h2⟩
    · rintro ⟨es, g1, g2⟩
      rw [h1] at g1; cases g1; rfl
  · rename_i no
    constructor
    · intro h; cases h
    · rintro ⟨es, g1, g2⟩
      exact (no a es g1 g2).elim
theorem gt_start {ss : List Sv} {n i : Nat} {sv : Sv} : gt (ss.map some ++ List.replicate n none) i = some sv ↔ ss[i]? = some sv := by
  rw [gt_iff]
  by_cases hi : i < ss.length
  · rw [List.getElem?_append_left (by simpa using hi), List.getElem?_map]
    cases q : ss[i]? with
    | none => simp
    | some s => simp
  · rw [List.getElem?_append_right (by simpa using hi), List.getElem?_replicate, List.getElem?_eq_none (by omega)]
    constructor
    · intro h; split at h <;> cases h
    · intro h; cases h
theorem st_start {N : List Str} {vs : List V} {i : Nat} {v : V} : (L2.start N vs)[i]? = some (some v) ↔ vs[i]? = some v := by
  unfold L2.start
  by_cases hi : i < vs.length
  · rw [List.getElem?_append_left (by simpa using hi), List.getElem?_map]
    cases q : vs[i]? with
    | none => simp
    | some s => simp
  · rw [List.getElem?_append_right (by simpa using hi), List.getElem?_replicate, List.getElem?_eq_none (by omega)]
    constructor
    · intro h; split at h <;> cases h
    · intro h; cases h
theorem isL_lent : ∀ (ss : List Sv) (i : Nat), isL (lentOf ss) i = false → ∀ ds, ss[i]? ≠ some (.own ds)
  | [], i, _, ds => by simp
  | s :: ss, 0, h, ds => by
    cases s with
    | val d => simp
    | own es => simp [lentOf, isL] at h
  | s :: ss, i + 1, h, ds => by
    rw [List.getElem?_cons_succ]
    exact isL_lent ss i h ds
theorem isL_own : ∀ (ss : List Sv) (i : Nat), isL (lentOf ss) i = true → ∃ ds, ss[i]? = some (.own ds)
  | [], i, h => by simp [lentOf, isL] at h
  | s :: ss, 0, h => by
    cases s with
    | val d => simp [lentOf, isL] at h
    | own es => exact ⟨es, rfl⟩
  | s :: ss, i + 1, h => by
    rw [List.getElem?_cons_succ]
    exact isL_own ss i h
theorem LOk.start (K : PySem.W.Frag) (H : Hp) (cls : Nat → Addr) (vs : List V) (ss : List Sv) {Z : Addr → Prop} (A : ArgsOk K H Z vs ss) : LOk (cOf K H cls vs ss) (lentOf ss) :=
  ⟨fun i h => by
    cases q : (cOf K H cls vs ss).lent i with
    | none => rfl
    | some a =>
      obtain ⟨ds, _, g⟩ := lentAt_some.mp q
      exact (isL_lent ss i h ds g).elim, fun a ⟨i, ds, h1, h2⟩ => ⟨i, lentAt_some.mpr ⟨ds, h1, h2⟩⟩, fun i h => by
    obtain ⟨ds, g⟩ := isL_own ss i h
    have hi : i < vs.length := by rw [A.len]; exact (List.getElem?_eq_some_iff.mp g).1
    obtain ⟨p, xs, e, _⟩ := (A.rel i _ _ (List.getElem?_eq_getElem hi) g).own_at
    exact ⟨p, lentAt_some.mpr ⟨ds, by rw [List.getElem?_eq_getElem hi, e], g⟩⟩⟩
section
variable {K : PySem.W.Frag} {H : Hp} {Z : Addr → Prop} {vs : List V} {ss : List Sv} {cls : Nat → Addr} {N : List Str}
theorem own_start (e : N.length - vs.length = n) : ∀ a, Own (L2.start N vs) (ss.map some ++ List.replicate n none) a ↔ Lt vs ss a := fun a =>
  ⟨fun ⟨i, ds, h1, h2⟩ => ⟨i, ds, st_start.mp h2, gt_start.mp h1⟩, fun ⟨i, ds, h1, h2⟩ => ⟨i, ds, gt_start.mpr h2, st_start.mpr h1⟩⟩
theorem Fr.start (A : ArgsOk K H Z vs ss) (hN : vs.length ≤ N.length) : Fr (cOf K H cls vs ss) Z (L2.start N vs) H (ss.map some ++ List.replicate (N.length - vs.length) none) := by
  have ow := own_start (N := N) (vs := vs) (ss := ss) rfl
  have gO : ∀ a, OO (L2.start N vs) (ss.map some ++ List.replicate (N.length - vs.length) none) Z a → (Lt vs ss a ∨ Z a) ∨ H a = none := fun a z => .inl (z.imp (ow a).mp id)
  refine ⟨by unfold L2.start; simp [A.len], fun i sv h => ?_, fun i j ds es a h1 h2 h3 h4 => A.inj i j a ds es (st_start.mp h3) (st_start.mp h4) (gt_start.mp h1) (gt_start.mp h2), fun a h => ⟨.inl ((ow a).mp h), A.nz a ((ow a).mp h)⟩, fun a o e _ => e, fun a h => h, A.zt, fun i a h => ?_⟩
  · have h := gt_start.mp h
    have hi : i < vs.length := by rw [A.len]; exact (List.getElem?_eq_some_iff.mp h).1
    exact ⟨vs[i], st_start.mpr (List.getElem?_eq_getElem hi), (A.rel i _ sv (List.getElem?_eq_getElem hi) h).mono (fun _ _ e _ => e) gO fun _ _ _ _ _ e => e⟩
  · obtain ⟨ds, h1, h2⟩ := lentAt_some.mp h
    refine ⟨st_start.mpr h1, ⟨_, gt_start.mpr h2⟩, ?_, fun j es q1 q2 => A.inj j i a es ds (st_start.mp q2) h1 (gt_start.mp q1) h2⟩
    obtain ⟨p, xs, e, hp, _⟩ := (A.rel i _ _ h1 h2).own_at
    cases e
    rw [hp]; exact fun z => nomatch z
/-- behind the body -/
theorem CPost.end {σ' : Slots} {H' : Hp} {S' : FS} {v : V} {r : Sv} {np : Nat} (A : ArgsOk K H Z vs ss) (hn : vs.length = np) (f : Fr (cOf K H cls vs ss) (Zt Z (tmpA v (.tmp r))) σ' H' S')
    (sr : SR K H' (OO σ' S' (Zt Z (tmpA v (.tmp r)))) v r) (new : ∀ a ∈ tmpA v (.tmp r), H a = none) : CPost K H Z vs ss H' (S'.take np) v r := by
  have look : ∀ (i : Nat) a ds, vs[i]? = some (V.ref a) → ss[i]? = some (Sv.own ds) → σ'[i]? = some (some (.ref a)) ∧ ∃ sv, gt S' i = some sv ∧ (S'.take np)[i]? = some (some sv) := fun i a ds h1 h2 => by
    obtain ⟨g1, ⟨sv, g2⟩, _⟩ := f.lnt i a (lentAt_some.mpr ⟨ds, h1, h2⟩)
    have hi : i < np := by rw [← hn]; exact (List.getElem?_eq_some_iff.mp h1).1
    exact ⟨g1, sv, g2, by rw [List.getElem?_take_of_lt hi]; exact gt_iff.mp g2⟩
  have gO : ∀ a, (Kept vs ss (S'.take np) a ∨ Z a ∨ a ∈ tmpA v (.tmp r)) → OO σ' S' (Zt Z (tmpA v (.tmp r))) a ∨ H' a = none := fun a z => by
    rcases z with ⟨i, ds, ds', h1, h2, h3⟩ | z | z
    · obtain ⟨g1, sv, g2, g3⟩ := look i a ds h1 h2
      rw [h3] at g3; cases g3
      exact .inl (.inl ⟨i, ds', g2, g1⟩)
    · exact .inl (.inr (.inl z))
    · exact .inl (.inr (.inr z))
  refine ⟨fun a o e n => f.keep a o e n, fun a h => f.tr0 a h, fun i a ds h1 h2 => ?_, sr.mono (fun _ _ e _ => e) gO fun _ _ _ _ _ e => e, new⟩
  obtain ⟨g1, sv, g2, g3⟩ := look i a ds h1 h2
  obtain ⟨u, e, rr⟩ := f.rel i sv g2
  rw [g1] at e; cases e
  exact ⟨sv, g3, rr.mono (fun _ _ e _ => e) gO fun _ _ _ _ _ e => e⟩
theorem body_post {body : List Bool → FSt} {Q : VK} {E : XK} {np : Nat} (hN : np ≤ N.length) (h : spF K cls np (runF np N.length body) vs H Q E) : ∃ Z ss, ArgsOk K H Z vs ss ∧
    tS (cOf K H cls vs ss) (fun cl d _ H => E cl d H) (body (lentOf ss)) { nx := fun _ H' => Q .non H', rt := Q } (L2.start N vs) H := by
  obtain ⟨hn, Z, ss, A, h⟩ := h
  refine ⟨Z, ss, A, Z, _, Fr.start A (by rw [hn]; exact hN), ?_⟩
  have hl : ss.length = np := by rw [← A.len, hn]
  unfold runF at h
  rw [if_pos hl] at h
  rw [hn]
  have z0 : ∀ a, Zt Z (tmpA .non (.tmp (.val .non))) a → Z a := fun a z => Zt.nil z
  cases q : body (lentOf ss) (ss.map some ++ List.replicate (N.length - np) none) with
  | nx S => rw [q] at h; exact fun σ' H' st => h .non H' (CPost.end A hn (st.fr.sub z0) .non fun _ z => nomatch z)
  | bk S => rw [q] at h; exact h.elim
  | ct S => rw [q] at h; exact h.elim
  | rt r S => rw [q] at h; exact fun v σ' H' st => h v H' (CPost.end A hn st.step.fr st.sr fun a ha => (st.new a ha).1)
  | ex k S => rw [q] at h; exact fun σ' H' st => h H' (CPost.end A hn (st.fr.sub z0) .non fun _ z => nomatch z)
  | no => rw [q] at h; exact h.elim
end

/-! ### the caller -/
def refsOf : List Arg → List Nat
  | [] => []
  | .ref i :: xs => i :: refsOf xs
  | .tmp _ :: xs => refsOf xs
def lendA (S : FS) : List Arg → Option (List Sv)
  | [] => some []
  | .tmp s :: xs => (lendA S xs).map (s :: ·)
  | .ref i :: xs => (gt S i).bind fun s => (lendA S xs).map (s :: ·)
def back : FS → List Arg → List (Option Sv) → FS
  | S, [], _ => S
  | S, .tmp _ :: xs, os => back S xs os.tail
  | S, .ref i :: xs, os => back (if isOwn S i = true then st S i os.head?.join else S) xs os.tail
def rCal (F : List Sv → CR) (fs : FA) : FE := fun S => (fs S).bind fun xs S1 => if (refsOf xs).Nodup then match lendA S1 xs with
    | some ss => match F ss with
      | .ok r outs => .ok (.tmp r) (back S1 xs outs)
      | .ex k outs => .ex k (back S1 xs outs)
      | .no => .no
    | none => .no
  else .no
theorem lendA_at {S : FS} : ∀ {xs : List Arg} {ss : List Sv}, lendA S xs = some ss → ss.length = xs.length ∧ ∀ (i : Nat) x, xs[i]? = some x → ∃ s, ss[i]? = some s ∧ (x = .tmp s ∨ ∃ j, x = .ref j ∧ gt S j = some s)
  | [], ss, h => by cases h; exact ⟨rfl, fun i x h => by simp at h⟩
  | .tmp s :: xs, ss, h => by
    simp only [lendA, Option.map_eq_some_iff] at h
    obtain ⟨ss', h1, rfl⟩ := h
    obtain ⟨l, k⟩ := lendA_at h1
    refine ⟨by simp [l], fun i x hx => ?_⟩
    cases i with
    | zero => simp at hx; subst hx; exact ⟨s, rfl, .inl rfl⟩
    | succ i => simpa using k i x (by simpa using hx)
  | .ref j :: xs, ss, h => by
    simp only [lendA, Option.map_eq_some_iff, Option.bind_eq_some_iff] at h
    obtain ⟨s, h0, ss', h1, rfl⟩ := h
    obtain ⟨l, k⟩ := lendA_at h1
    refine ⟨by simp [l], fun i x hx => ?_⟩
    cases i with
    | zero => simp at hx; subst hx; exact ⟨s, rfl, .inr ⟨j, rfl, h0⟩⟩
    | succ i => simpa using k i x (by simpa using hx)
theorem ARs_at {c : FCx} {O : Addr → Prop} {σ : Slots} {H : Hp} : ∀ {vs : List V} {xs : List Arg}, ARs c O σ H vs xs → vs.length = xs.length ∧ ∀ (i : Nat) v x, vs[i]? = some v → xs[i]? = some x → AR c O σ H v x
  | _, _, .nil => ⟨rfl, fun i v x h => by simp at h⟩
  | v :: vs, x :: xs, .cons a r => by
    obtain ⟨l, k⟩ := ARs_at r
    refine ⟨by simp [l], fun i u y h1 h2 => ?_⟩
    cases i with
    | zero => simp at h1 h2; subst h1; subst h2; exact a
    | succ i => exact k i u y (by simpa using h1) (by simpa using h2)
theorem tmpAs_at : ∀ {vs : List V} {xs : List Arg} {i : Nat} {a : Addr} {ds : Bx}, vs[i]? = some (V.ref a) → xs[i]? = some (Arg.tmp (.own ds)) → a ∈ tmpAs vs xs
  | [], _, _, _, _, h, _ => by simp at h
  | _ :: _, [], _, _, _, _, h => by simp at h
  | v :: vs, x :: xs, 0, a, ds, h1, h2 => by
    simp at h1 h2
    subst h1; subst h2
    exact List.mem_append_left _ (by simp [tmpA])
  | v :: vs, x :: xs, i + 1, a, ds, h1, h2 => List.mem_append_right _ (tmpAs_at (i := i) (ds := ds) (by simpa using h1) (by simpa using h2))
theorem tmpAs_inj : ∀ {vs : List V} {xs : List Arg} {i j : Nat} {a : Addr} {ds es : Bx}, (tmpAs vs xs).Nodup → vs[i]? = some (V.ref a) → xs[i]? = some (Arg.tmp (.own ds)) → vs[j]? = some (V.ref a) → xs[j]? = some (Arg.tmp (.own es)) → i = j
  | [], _, _, _, _, _, _, _, h, _, _, _ => by simp at h
  | _ :: _, [], _, _, _, _, _, _, _, h, _, _ => by simp at h
  | v :: vs, x :: xs, 0, 0, _, _, _, _, _, _, _, _ => rfl
  | v :: vs, x :: xs, 0, j + 1, a, ds, es, nd, h1, h2, h3, h4 => by
    simp at h1 h2
    subst h1; subst h2
    have := List.nodup_append.mp nd
    exact (this.2.2 a (by simp [tmpA]) a (tmpAs_at (i := j) (ds := es) (by simpa using h3) (by simpa using h4)) rfl).elim
  | v :: vs, x :: xs, i + 1, 0, a, ds, es, nd, h1, h2, h3, h4 => by
    simp at h3 h4
    subst h3; subst h4
    have := List.nodup_append.mp nd
    exact (this.2.2 a (by simp [tmpA]) a (tmpAs_at (i := i) (ds := ds) (by simpa using h1) (by simpa using h2)) rfl).elim
  | v :: vs, x :: xs, i + 1, j + 1, a, ds, es, nd, h1, h2, h3, h4 => by
    have := tmpAs_inj (i := i) (j := j) (List.nodup_append.mp nd).2.1 (by simpa using h1) (by simpa using h2) (by simpa using h3) (by simpa using h4)
    omega
theorem refs_at : ∀ {xs : List Arg} {i k : Nat}, xs[i]? = some (Arg.ref k) → k ∈ refsOf xs
  | [], _, _, h => by simp at h
  | x :: xs, 0, k, h => by
    simp at h; subst h
    simp [refsOf]
  | x :: xs, i + 1, k, h => by
    have := refs_at (xs := xs) (i := i) (by simpa using h)
    cases x with
    | tmp s => exact this
    | ref j => exact List.mem_cons_of_mem _ this
theorem ref_of : ∀ {xs : List Arg} (k : Nat), k ∈ refsOf xs → ∃ i : Nat, xs[i]? = some (.ref k)
  | [], _, h => nomatch h
  | .tmp s :: xs, k, h => let ⟨i, e⟩ := ref_of (xs := xs) k h; ⟨i + 1, by simpa using e⟩
  | .ref j :: xs, k, h => by
    rcases List.mem_cons.mp h with e | h
    · subst e; exact ⟨0, rfl⟩
    · obtain ⟨i, e⟩ := ref_of (xs := xs) k h; exact ⟨i + 1, by simpa using e⟩
theorem refs_inj : ∀ {xs : List Arg} {i j k : Nat}, (refsOf xs).Nodup → xs[i]? = some (Arg.ref k) → xs[j]? = some (Arg.ref k) → i = j
  | [], _, _, _, _, h, _ => by simp at h
  | x :: xs, 0, 0, _, _, _, _ => rfl
  | x :: xs, 0, j + 1, k, nd, h1, h2 => by
    simp at h1; subst h1
    exact ((List.nodup_cons.mp nd).1 (refs_at (i := j) (by simpa using h2))).elim
  | x :: xs, i + 1, 0, k, nd, h1, h2 => by
    simp at h2; subst h2
    exact ((List.nodup_cons.mp nd).1 (refs_at (i := i) (by simpa using h1))).elim
  | x :: xs, i + 1, j + 1, k, nd, h1, h2 => by
    have nd' : (refsOf xs).Nodup := by
      cases x with
      | tmp s => exact nd
      | ref j => exact (List.nodup_cons.mp nd).2
    have := refs_inj (i := i) (j := j) nd' (by simpa using h1) (by simpa using h2)
    omega
theorem back_len : ∀ (S : FS) (xs : List Arg) (os : List (Option Sv)), (back S xs os).length = S.length
  | S, [], _ => rfl
  | S, .tmp _ :: xs, os => back_len S xs _
  | S, .ref i :: xs, os => by
    unfold back
    rw [back_len]
    split
    · exact st_len _ _ _
    · rfl
theorem back_out : ∀ {S : FS} {xs : List Arg} {os : List (Option Sv)} {k : Nat}, k ∉ refsOf xs → gt (back S xs os) k = gt S k
  | S, [], _, k, _ => rfl
  | S, .tmp _ :: xs, os, k, h => back_out (xs := xs) h
  | S, .ref i :: xs, os, k, h => by
    unfold back
    rw [back_out (xs := xs) fun z => h (List.mem_cons_of_mem _ z)]
    split
    · rw [gt_st, if_neg fun e => h (by subst e; exact List.mem_cons_self)]
    · rfl
theorem back_val : ∀ {S : FS} {xs : List Arg} {os : List (Option Sv)} {k : Nat}, isOwn S k = false → gt (back S xs os) k = gt S k
  | S, [], _, k, _ => rfl
  | S, .tmp _ :: xs, os, k, h => back_val (xs := xs) h
  | S, .ref i :: xs, os, k, h => by
    unfold back
    split
    · rename_i hi
      have ne : i ≠ k := fun e => by subst e; rw [h] at hi; cases hi
      have e : gt (st S i os.head?.join) k = gt S k := by rw [gt_st, if_neg ne]
      rw [back_val (xs := xs) (by unfold isOwn; rw [e]; exact h), e]
    · exact back_val (xs := xs) h
theorem back_own : ∀ {S : FS} {xs : List Arg} {os : List (Option Sv)} {i k : Nat}, (refsOf xs).Nodup → xs[i]? = some (Arg.ref k) → isOwn S k = true → gt (back S xs os) k = (os[i]?).join
  | S, [], _, i, k, _, h, _ => by simp at h
  | S, .tmp _ :: xs, os, 0, k, nd, h, ho => by simp at h
  | S, .tmp _ :: xs, os, i + 1, k, nd, h, ho => by
    unfold back
    rw [back_own (xs := xs) (i := i) nd (by simpa using h) ho]
    cases os <;> simp
  | S, .ref j :: xs, os, 0, k, nd, h, ho => by
    simp at h; subst h
    unfold back
    rw [if_pos ho, back_out (List.nodup_cons.mp nd).1, gt_st, if_pos rfl]
    have hl : j < S.length := by
      obtain ⟨ds, q⟩ := isOwn_iff ho
      exact gt_lt q
    rw [if_pos hl]
    cases os <;> rfl
  | S, .ref j :: xs, os, i + 1, k, nd, h, ho => by
    have hk : k ∈ refsOf xs := refs_at (i := i) (by simpa using h)
    have ne : j ≠ k := fun e => by subst e; exact (List.nodup_cons.mp nd).1 hk
    unfold back
    have ho' : isOwn (if isOwn S j = true then st S j os.head?.join else S) k = true := by
      split
      · unfold isOwn
        rw [gt_st, if_neg ne]
        exact ho
      · exact ho
    rw [back_own (xs := xs) (i := i) (List.nodup_cons.mp nd).2 (by simpa using h) ho']
    cases os <;> simp
section
variable {c : FCx} {Z : Addr → Prop} {σ : Slots} {H H1 : Hp} {S S1 : FS} {vs : List V} {xs : List Arg} {ss : List Sv}
/-- the callee's forbidden places -/
def Zc (σ : Slots) (S1 : FS) (Z : Addr → Prop) (vs : List V) (xs : List Arg) (ss : List Sv) (a : Addr) : Prop := OO σ S1 (Zt Z (tmpAs vs xs)) a ∧ ¬ Lt vs ss a
theorem lt_oo (g : Gots c Z σ H S H1 S1 vs xs) (hl : lendA S1 xs = some ss) (a : Addr) (h : Lt vs ss a) : OO σ S1 (Zt Z (tmpAs vs xs)) a := by
  obtain ⟨i, ds, h1, h2⟩ := h
  obtain ⟨l1, k1⟩ := ARs_at g.ar
  obtain ⟨l2, k2⟩ := lendA_at hl
  have hi : i < xs.length := by rw [← l1]; exact (List.getElem?_eq_some_iff.mp h1).1
  obtain ⟨s, e1, e2⟩ := k2 i _ (List.getElem?_eq_getElem hi)
  rw [h2] at e1; cases e1
  rcases e2 with e2 | ⟨j, e2, e3⟩
  · exact .inr (.inr (tmpAs_at h1 (by rw [List.getElem?_eq_getElem hi, e2])))
  · have a1 := k1 i _ _ h1 (List.getElem?_eq_getElem hi)
    rw [e2] at a1
    exact .inl ⟨j, ds, e3, a1⟩
theorem args_ok (fr : Fr c Z σ H S) (g : Gots c Z σ H S H1 S1 vs xs) (nd : (refsOf xs).Nodup) (hl : lendA S1 xs = some ss) : ArgsOk c.K H1 (Zc σ S1 Z vs xs ss) vs ss := by
  obtain ⟨l1, k1⟩ := ARs_at g.ar
  obtain ⟨l2, k2⟩ := lendA_at hl
  have f := g.step.fr
  have gO : ∀ a, (Lt vs ss a ∨ Zc σ S1 Z vs xs ss a) → OO σ S1 (Zt Z (tmpAs vs xs)) a ∨ H1 a = none := fun a z => .inl (z.elim (lt_oo g hl a) (·.1))
  -- where an own argument comes from
  have src : ∀ (i : Nat) a ds, vs[i]? = some (V.ref a) → ss[i]? = some (Sv.own ds) → (∃ ds', xs[i]? = some (Arg.tmp (.own ds'))) ∨ ∃ j : Nat, xs[i]? = some (Arg.ref j) ∧ gt S1 j = some (.own ds) ∧ σ[j]? = some (some (.ref a)) := fun i a ds h1 h2 => by
    have hi : i < xs.length := by rw [← l1]; exact (List.getElem?_eq_some_iff.mp h1).1
    obtain ⟨s, e1, e2⟩ := k2 i _ (List.getElem?_eq_getElem hi)
    rw [h2] at e1; cases e1
    rcases e2 with e2 | ⟨j, e2, e3⟩
    · exact .inl ⟨ds, by rw [List.getElem?_eq_getElem hi, e2]⟩
    · have a1 := k1 i _ _ h1 (List.getElem?_eq_getElem hi)
      rw [e2] at a1
      exact .inr ⟨j, by rw [List.getElem?_eq_getElem hi, e2], e3, a1⟩
  refine ⟨by rw [l1, l2], fun i v s h1 h2 => ?_, fun i j a ds es h1 h2 h3 h4 => ?_, fun a h z => z.2 h, fun a z => ?_⟩
  · have hi : i < xs.length := by rw [← l1]; exact (List.getElem?_eq_some_iff.mp h1).1
    obtain ⟨s', e1, e2⟩ := k2 i _ (List.getElem?_eq_getElem hi)
    rw [h2] at e1; cases e1
    have a1 := k1 i _ _ h1 (List.getElem?_eq_getElem hi)
    rcases e2 with e2 | ⟨j, e2, e3⟩
    · rw [e2] at a1
      exact SR.mono a1 (fun _ _ e _ => e) gO fun _ _ _ _ _ e => e
    · rw [e2] at a1
      obtain ⟨u, e4, r⟩ := f.rel j _ e3
      have a1 : σ[j]? = some (some v) := a1
      rw [a1] at e4; cases e4
      exact r.mono (fun _ _ e _ => e) gO fun _ _ _ _ _ e => e
  · rcases src i a ds h1 h3 with ⟨d1, q1⟩ | ⟨k, q1, q2, q3⟩ <;> rcases src j a es h2 h4 with ⟨d2, p1⟩ | ⟨k', p1, p2, p3⟩
    · exact tmpAs_inj g.nd h1 q1 h2 p1
    · exact ((f.own a ⟨k', es, p2, p3⟩).2 (.inr (tmpAs_at h1 q1))).elim
    · exact ((f.own a ⟨k, ds, q2, q3⟩).2 (.inr (tmpAs_at h2 p1))).elim
    · have := f.inj k k' ds es a q2 p2 q3 p3
      subst this
      exact refs_inj nd q1 p1
  · rcases z.1 with z | z
    · obtain ⟨xs, e⟩ := f.own_at z
      rw [e]; exact fun z => nomatch z
    · exact f.ztr a z
theorem call_got {H2 : Hp} {outs : List (Option Sv)} {v : V} {r : Sv} (fr : Fr c Z σ H S) (g : Gots c Z σ H S H1 S1 vs xs) (nd : (refsOf xs).Nodup) (hl : lendA S1 xs = some ss) (P : CPost c.K H1 (Zc σ S1 Z vs xs ss) vs ss H2 outs v r) :
    Got c Z σ H S H2 (back S1 xs outs) v (.tmp r) := by
  obtain ⟨l1, k1⟩ := ARs_at g.ar
  obtain ⟨l2, k2⟩ := lendA_at hl
  have f := g.step.fr
  -- a lent slot
  have lent : ∀ (i k : Nat) ds, xs[i]? = some (Arg.ref k) → gt S1 k = some (.own ds) → ∃ a, vs[i]? = some (V.ref a) ∧ ss[i]? = some (Sv.own ds) ∧ σ[k]? = some (some (.ref a)) := fun i k ds h1 h2 => by
    obtain ⟨s, e1, e2⟩ := k2 i _ h1
    have hi : i < vs.length := by rw [l1]; exact (List.getElem?_eq_some_iff.mp h1).1
    have a1 : σ[k]? = some (some vs[i]) := k1 i _ _ (List.getElem?_eq_getElem hi) h1
    obtain ⟨u, e3, r0⟩ := f.rel k _ h2
    obtain ⟨p, ys, e4, _⟩ := r0.own_at
    rw [a1] at e3; injection e3 with e3; injection e3 with e3
    rcases e2 with e2 | ⟨j, e2, e5⟩
    · cases e2
    · cases e2
      rw [h2] at e5; cases e5
      exact ⟨p, by rw [List.getElem?_eq_getElem hi, e3, e4], e1, by rw [a1, e3, e4]⟩
  -- what stands in the slots now
  have slot : ∀ k sv, gt (back S1 xs outs) k = some sv → (gt S1 k = some sv ∧ ∀ ds, sv = .own ds → k ∉ refsOf xs) ∨ ∃ (i : Nat) (a : Addr) (ds : Bx), vs[i]? = some (V.ref a) ∧ ss[i]? = some (Sv.own ds) ∧ σ[k]? = some (some (.ref a)) ∧ gt S1 k = some (.own ds) ∧ outs[i]? = some (some sv) := fun k sv h => by
    by_cases hk : k ∈ refsOf xs
    · cases ho : isOwn S1 k with
      | false =>
        rw [back_val ho] at h
        exact .inl ⟨h, fun ds e => by subst e; simp [isOwn, h] at ho⟩
      | true =>
        obtain ⟨ds, q⟩ := isOwn_iff ho
        obtain ⟨i, hi⟩ := ref_of k hk
        obtain ⟨a, h1, h2, h3⟩ := lent i k ds hi q
        rw [back_own nd hi ho] at h
        cases q3 : outs[i]? with
        | none => rw [q3] at h; cases h
        | some o => rw [q3] at h; exact .inr ⟨i, a, ds, h1, h2, h3, q, by rw [q3]; exact congrArg some h⟩
    · rw [back_out hk] at h
      exact .inl ⟨h, fun _ _ => hk⟩
  have ow : ∀ a, Own σ (back S1 xs outs) a → Own σ S1 a ∧ (Lt vs ss a → Kept vs ss outs a) := fun a ⟨k, ds', h1, h2⟩ => by
    rcases slot k _ h1 with ⟨q1, q2⟩ | ⟨i, b, ds, e1, e2, e3, e4, e5⟩
    · refine ⟨⟨k, ds', q1, h2⟩, fun ⟨i, ds, e1, e2⟩ => ?_⟩
      have hi : i < xs.length := by rw [← l1]; exact (List.getElem?_eq_some_iff.mp e1).1
      obtain ⟨s, w1, w2⟩ := k2 i _ (List.getElem?_eq_getElem hi)
      rw [e2] at w1; cases w1
      rcases w2 with w2 | ⟨j, w2, w3⟩
      · exact ((f.own a ⟨k, ds', q1, h2⟩).2 (.inr (tmpAs_at e1 (by rw [List.getElem?_eq_getElem hi, w2])))).elim
      · have a1 := k1 i _ _ e1 (List.getElem?_eq_getElem hi)
        rw [w2] at a1
        have := f.inj k j ds' ds a q1 w3 h2 a1
        subst this
        exact (q2 ds' rfl (refs_at (i := i) (by rw [List.getElem?_eq_getElem hi, w2]))).elim
    · rw [h2] at e3; cases e3
      exact ⟨⟨k, ds, e4, h2⟩, fun _ => ⟨i, ds, ds', e1, e2, e5⟩⟩
  have zn : ∀ a, Z a → ¬ Lt vs ss a := fun a z h => by
    rcases lt_oo g hl a h with q | q | q
    · exact (f.own a q).2 (.inl z)
    · obtain ⟨i, ds, e1, e2⟩ := h
      have hi : i < xs.length := by rw [← l1]; exact (List.getElem?_eq_some_iff.mp e1).1
      obtain ⟨s, w1, w2⟩ := k2 i _ (List.getElem?_eq_getElem hi)
      rw [e2] at w1; cases w1
      rcases w2 with w2 | ⟨j, w2, w3⟩
      · exact fr.ztr a z (g.new a (tmpAs_at e1 (by rw [List.getElem?_eq_getElem hi, w2])))
      · have a1 := k1 i _ _ e1 (List.getElem?_eq_getElem hi)
        rw [w2] at a1
        exact (f.own a ⟨j, ds, w3, a1⟩).2 (.inl z)
    · exact fr.ztr a z (g.new a q)
  -- forbidden places, seen from the callee
  have gC : ∀ a, OO σ (back S1 xs outs) (Zt Z (tmpA v (.tmp r))) a → (Kept vs ss outs a ∨ Zc σ S1 Z vs xs ss a ∨ a ∈ tmpA v (.tmp r)) ∨ H2 a = none := fun a z => by
    rcases z with z | z | z
    · obtain ⟨q1, q2⟩ := ow a z
      by_cases hlt : Lt vs ss a
      · exact .inl (.inl (q2 hlt))
      · exact .inl (.inr (.inl ⟨.inl q1, hlt⟩))
    · exact .inl (.inr (.inl ⟨.inr (.inl z), zn a z⟩))
    · exact .inl (.inr (.inr z))
  have gB : ∀ a, OO σ (back S1 xs outs) (Zt Z (tmpA v (.tmp r))) a → OO σ S1 (Zt Z (tmpAs vs xs)) a ∨ H1 a = none := fun a z => by
    rcases z with z | z | z
    · exact .inl (.inl (ow a z).1)
    · exact .inl (.inr (.inl z))
    · exact .inr (P.new a z)
  have kB : ∀ a o, H1 a = some o → ¬ OO σ S1 (Zt Z (tmpAs vs xs)) a → H2 a = some o := fun a o e n => P.keep a o e fun z => n (lt_oo g hl a z)
  have rp : ∀ a ∈ tmpA v (.tmp r), H2 a ≠ none := fun a ha => by
    cases r with
    | val d => rw [tmpA_val] at ha; cases ha
    | own ds =>
      obtain ⟨p, ys, e, hp, _⟩ := SR.own_at P.res
      subst e
      have : a = p := by simpa [tmpA] using ha
      subst this
      rw [hp]; exact fun z => nomatch z
  have fr2 : Fr c (Zt Z (tmpA v (.tmp r))) σ H2 (back S1 xs outs) := by
    refine ⟨by rw [back_len]; exact f.len, fun k sv h => ?_, fun i j ds es a h1 h2 h3 h4 => ?_, fun a h => ⟨(f.own a (ow a h).1).1, fun z => ?_⟩, fun a o e n => ?_, fun a h => P.tr a (f.tr0 a h), fun a z => ?_, fun i a h => ?_⟩
    · rcases slot k sv h with ⟨q1, q2⟩ | ⟨i, a, ds, e1, e2, e3, e4, e5⟩
      · obtain ⟨u, e, rr⟩ := f.rel k sv q1
        refine ⟨u, e, rr.mono kB gB fun a ds ys e1 e2 e3 => P.keep a _ e3 fun z => ?_⟩
        subst e1; subst e2
        obtain ⟨i, ds', w1, w2⟩ := z
        have hi : i < xs.length := by rw [← l1]; exact (List.getElem?_eq_some_iff.mp w1).1
        obtain ⟨s, w3, w4⟩ := k2 i _ (List.getElem?_eq_getElem hi)
        rw [w2] at w3; cases w3
        rcases w4 with w4 | ⟨j, w4, w5⟩
        · exact (f.own a ⟨k, ds, q1, e⟩).2 (.inr (tmpAs_at w1 (by rw [List.getElem?_eq_getElem hi, w4])))
        · have a1 := k1 i _ _ w1 (List.getElem?_eq_getElem hi)
          rw [w4] at a1
          have := f.inj k j ds ds' a q1 w5 e a1
          subst this
          exact q2 ds rfl (refs_at (i := i) (by rw [List.getElem?_eq_getElem hi, w4]))
      · obtain ⟨sv', w1, w2⟩ := P.back i a ds e1 e2
        rw [e5] at w1; cases w1
        exact ⟨_, e3, w2.mono (fun _ _ e _ => e) gC fun _ _ _ _ _ e => e⟩
    · have key : ∀ {k ds}, gt (back S1 xs outs) k = some (.own ds) → ∃ ds', gt S1 k = some (.own ds') := fun {k ds} h => by
        rcases slot k _ h with ⟨q1, _⟩ | ⟨_, _, ds', _, _, _, e4, _⟩
        · exact ⟨ds, q1⟩
        · exact ⟨ds', e4⟩
      obtain ⟨_, q1⟩ := key h1
      obtain ⟨_, q2⟩ := key h2
      exact f.inj i j _ _ a q1 q2 h3 h4
    · rcases z with z | z
      · exact (f.own a (ow a h).1).2 (.inl z)
      · exact f.not_own (P.new a z) (ow a h).1
    · refine P.keep a o (f.keep a o e n) fun z => ?_
      rcases lt_oo g hl a z with q | q | q
      · rcases (f.own a q).1 with w | w
        · exact n w
        · rw [w] at e; cases e
      · exact zn a q z
      · have := fr.tr0 a (by rw [e]; exact fun z => nomatch z)
        exact this (g.new a q)
    · rcases z with z | z
      · exact P.tr a (f.ztr a (.inl z))
      · exact rp a z
    · obtain ⟨h1, ⟨sv, h2⟩, h3, h4⟩ := f.lnt i a h
      refine ⟨h1, ?_, P.tr a h3, fun j ds q1 q2 => ?_⟩
      · by_cases hk : i ∈ refsOf xs
        · cases ho : isOwn S1 i with
          | false => exact ⟨sv, by rw [back_val ho]; exact h2⟩
          | true =>
            obtain ⟨ds, q⟩ := isOwn_iff ho
            obtain ⟨k, hk'⟩ := ref_of i hk
            obtain ⟨b, w1, w2, w3⟩ := lent k i ds hk' q
            obtain ⟨sv', w4, _⟩ := P.back k b ds w1 w2
            exact ⟨sv', by rw [back_own nd hk' ho, w4]; rfl⟩
        · exact ⟨sv, by rw [back_out hk]; exact h2⟩
      · rcases slot j _ q1 with ⟨p1, _⟩ | ⟨_, _, ds', _, _, _, p1, _⟩
        · exact h4 j ds p1 q2
        · exact h4 j ds' p1 q2
  refine ⟨⟨fr2, fun a o e n => ?_, fun a h => g.step.ow a (ow a h).1, fun a h => P.tr a (g.step.tr a h)⟩, P.res.mono (fun _ _ e _ => e) gC fun _ _ _ _ _ e => e, fun a ha => g.step.non (P.new a ha)⟩
  refine P.keep a o (g.step.keep a o e n) fun z => ?_
  rcases lt_oo g hl a z with q | q | q
  · rcases g.step.ow a q with w | w
    · exact n w
    · rw [w] at e; cases e
  · exact zn a q z
  · have := g.new a q
    rw [this] at e; cases e
end
end FL

set_option maxRecDepth 100000
set_option maxHeartbeats 4000000
/-! A def of the text keeps its promise; calls of it. -/
namespace FL
open PySem PySem.Spec PyProof.Rows L2

structure FnG (P : Program) (w : World) (K : PySem.W.Frag) (mg : Str → Option Value) (base : Heap) (k : Nat) (f : Addr) (fd : FuncData) (ps : List Str) (sp : Sp) : Prop where
  len : ∀ vs H Q E, sp vs H Q E → vs.length = ps.length
  run : ∀ (A : Around) (outer : List Env) (s : Shared) (H : Hp) (args : Args) (us : List Value) (vs : List V) (Q : VK) (E : XK), Room k A → A.guards = some [] → Env0 P w K mg base A outer s H → BindsTo s fd args (ps.zip us) → Vals vs us → sp vs H Q E →
    codeAny (model P w) A (.call (.ref f) args) (L2.CR (L2N.CX P w) outer P w H s Q E) s
section
variable {P : Program} {w : World} {K : PySem.W.Frag} {mg : Str → Option Value} {base : Heap}
theorem FnG.mono {j k : Nat} {f : Addr} {fd : FuncData} {ps : List Str} {sp : Sp} (F : FnG P w K mg base j f fd ps sp) (h : j ≤ k) : FnG P w K mg base k f fd ps sp :=
  ⟨F.len, fun A outer s H args us vs Q E hr => F.run A outer s H args us vs Q E (hr.mono h)⟩
/-- the context of a def's body -/
abbrev bodyX (P : Program) (w : World) (K : PySem.W.Frag) (mg : Str → Option Value) (base : Heap) (N : List Str) (qual : Str) (scope : Scope) (f : Addr) (cd : Value) (A : Around) (outer : List Env) (s : Shared) (H : Hp) (E : XK) : Cx :=
  cxOf (L2N.CX P w) P w K mg base N qual scope f cd A outer s H E
theorem fnG_of {k : Nat} {x qual : Str} {st : Stmt} {f : Addr} {fd : FuncData} {N ps : List Str} {sp : Sp} (F : Fun K x qual st f fd) (S : FnScope N ps (defScope st)) (len : ∀ vs H Q E, sp vs H Q E → vs.length = ps.length)
    (hbody : ∀ (cdv : Value) (A : Around) (outer : List Env) (s : Shared) (H : Hp) (vs : List V) (Q : VK) (E : XK), Room k (A.deeper (envOfC qual (defScope st) s.heap.objs.size f cdv)) → A.guards = some [] → sp vs H Q E →
      ∃ t, PSs (bodyX P w K mg base N qual (defScope st) f cdv A outer s H E) (defBody st) t ∧ t { nx := fun _ H' => Q .non H', rt := Q } (L2.start N vs) H) : FnG P w K mg base (k + 1) f fd ps sp := by
  refine ⟨len, fun A outer s H args us vs Q E hr hg e0 hb r hsp => ?_⟩
  obtain ⟨cc, dd, z1, z2, z3, ann, cdv, z4, sls, rfl, look, code⟩ := F.ex
  have ln := len _ _ _ _ hsp
  have inK : K.In s.heap := e0.mod.kin.keeps fun b o q => (e0.bs b o q).1
  have nol : s.heap.NoLimit := e0.mod.nolimit.keeps fun b o q => (e0.bs b o q).1
  have par : ∀ y ∈ ps.zip us, (defScope st).names.lookup y.1 = some .local ∨ ((defScope st).names.lookup y.1 = some .cell ∧ ((cellsFrom (s.heap.objs.size + 1) (defScope st).names []).lookup y.1).isSome = true) := fun ⟨n, v⟩ hy =>
    (S.par n (List.of_mem_zip hy).1).imp id fun q => ⟨q, PySem.W.cellsFrom_some _ _ _ (.inl q)⟩
  refine codeAny_call_function hr.depth (inK _ _ look) rfl S.co S.gen rfl (PySem.W.codeRec_of inK code) (hb _ _ _ _ ?_)
  refine wpAny_newFunctionEnv_cells S.kind par fun env eq s1 call => ?_
  subst eq
  refine ⟨nol.keeps call.toInCall.keep, codeAny_func ?_⟩
  obtain ⟨t, read, q0⟩ := hbody cdv A outer s H vs Q E (hr.deeper _) hg hsp
  refine wpAny_mono (read.run [] s1 (L2.start N vs) H _ (inv_start S hr.hd e0 ln r call) q0) (fun fl s' hs => ?_) fun _ _ hs => hs
  cases fl with
  | ret u => obtain ⟨v, σ', H', J, rv, q⟩ := hs; exact ⟨v, H', J.os, J.bare, J.base, J.hok, rv, q⟩
  | next => obtain ⟨σ', H', J, q⟩ := hs; exact ⟨V.non, H', J.os, J.bare, J.base, J.hok, rfl, q⟩
  | brk => obtain ⟨_, _, _, q⟩ := hs; exact q.elim
  | cont => obtain ⟨_, _, _, q⟩ := hs; exact q.elim
end

/-! ### a call -/
/-- how a call binds: positional values and keywords' values put in the parameters' order -/
structure KB (K : PySem.W.Frag) (fd : FuncData) (ps ks : List Str) (np : Nat) (perm : List Nat) : Prop where
  to : ∀ (s : Shared) (us ws : List Value), K.In s.heap → us.length = np → ws.length = ks.length → BindsTo s fd ⟨us, ks.zip ws⟩ (ps.zip (perm.map fun i => (us ++ ws).getD i .none))
  len : perm.length = ps.length
/-- every parameter by place -/
theorem KB.all {K : PySem.W.Frag} {x qual : Str} {st : Stmt} {f : Addr} {fd : FuncData} {ps ks : List Str} {np : Nat} {perm : List Nat} (F : Fun K x qual st f fd) (hl : perm.length = ps.length)
    (h : ∀ (kV doc pm : Value) (an : Option Addr) (cdv ct : Value) (us ws : List Value), us.length = np → ws.length = ks.length →
      bindArgs (PySem.W.fnOf x qual (defArgs st) (defBody st) (defScope st) .none kV doc pm an cdv ct) ⟨us, ks.zip ws⟩ = pure (ps.zip (perm.map fun i => (us ++ ws).getD i .none))) : KB K fd ps ks np perm := by
  obtain ⟨oc, od, kV, doc, pm, an, cdv, ct, osl, rfl, lk, hcd⟩ := F.ex
  exact ⟨fun s us ws _ h1 h2 => .of_eq (h kV doc pm an cdv ct us ws h1 h2), hl⟩
theorem vals_perm {vs : List V} {us : List Value} (r : Vals vs us) : ∀ (perm : List Nat), Vals (perm.map fun i => vs.getD i .non) (perm.map fun i => us.getD i .none)
  | [] => .nil
  | i :: perm => by
    refine .cons (show RelV (vs.getD i .non) (us.getD i .none) from ?_) (vals_perm r perm)
    by_cases hi : i < vs.length
    · obtain ⟨u, e, q⟩ := r.get (List.getElem?_eq_getElem hi)
      rw [List.getD_eq_getElem?_getD, List.getElem?_eq_getElem hi, List.getD_eq_getElem?_getD, e]
      exact q
    · rw [List.getD_eq_getElem?_getD, List.getElem?_eq_none (by omega), List.getD_eq_getElem?_getD, List.getElem?_eq_none (by rw [← r.length]; omega)]
      rfl
section
variable {X : Cx} {W : WX} {k : Nat} {f : Addr} {fd : FuncData} {ps ks : List Str} {np : Nat} {perm : List Nat} {sp : Sp} {x : Str} {p pos : Pos} {e : Expr} {es : List Expr} {kws : List Keyword} {t tk : TA}
theorem run_fnG {pins : List (Addr × Obj)} {σ : Slots} {H : Hp} {s : Shared} {Q : VK} {us ws : List Value} {vs zs : List V} (F : FnG X.prog X.w X.K X.mg X.base k f fd ps sp) (hr : Room k X.A) (hg : X.A.guards = some []) (hb : KB X.K fd ps ks np perm) (tkW : L2N.Takes X W)
    (hn : us.length = np) (hn2 : ws.length = ks.length) (I : Inv X pins σ H s) (r : Vals vs us) (rz : Vals zs ws) (h : sp (perm.map fun i => (vs ++ zs).getD i .non) H Q (fun cl d H' => W cl d σ H')) : wpAny (model X.prog X.w) X.A (call (.ref f) us (ks.zip ws)) (EP X pins σ Q) X.xe s := by
  have r2 := vals_perm (r.append rz) perm
  refine wpAny_call (codeAny_mono (F.run X.A X.stack s H ⟨us, ks.zip ws⟩ _ _ Q _ hr hg I.env0 (hb.to s us ws I.kIn hn hn2) r2 h) fun r s' hq => ?_)
  cases r with
  | error e => exact tkW e s' (L2N.XE.of_call I (W := W) (fun _ _ _ h => h) hq)
  | ok fl =>
    cases fl with
    | ret u => exact I.after hq
    | next => exact False.elim hq
    | brk => exact False.elim hq
    | cont => exact False.elim hq
/-- f(e, .., k = v, ..) -/
def tCal (W : WX) (sp : Sp) (np nk : Nat) (perm : List Nat) (t tk : TA) : TE := fun σ H Q => t σ H fun vs H1 => vs.length = np ∧ tk σ H1 fun zs H2 => zs.length = nk ∧ sp (perm.map fun i => (vs ++ zs).getD i .non) H2 Q (fun cl d H' => W cl d σ H')
theorem pe_callG (F : FnG X.prog X.w X.K X.mg X.base k f fd ps sp) (hr : Room k X.A) (hgd : X.A.guards = some []) (hg : Gl X x) (hm : X.mg x = some (.ref f)) (hk : PySem.W.keepIn X.K (.ref f) = true) (hb : KB X.K fd ps [] np perm) (tkW : L2N.Takes X W)
    (ha : PA X (e :: es) t) (hdb : (x == ("__debug__" : Str)) = false) (he : starEach (e :: es) X.env = (false, eval e X.env) :: starEach es X.env) (hpl : (backTo pos (starEach es X.env)).any (·.1) = false) :
    PE X (.Call (.Name x p) (e :: es) [] pos) (tCal W sp np 0 perm t tNil) := by
  refine ⟨fun pins s σ H Q I h => ?_⟩
  refine wpAny_Call_Name_kw (ld_glob I hg hm ?_ hdb)
  refine PySem.W.callWith_K (h₀ := X.base) I.ok.mod.kin hk (thn (ha.run pos pins s σ H _ I h) fun us s1 ⟨vs, H1, I1, r, hn, _, q⟩ => ⟨I1.kIn, ?_⟩) he hpl
  exact run_fnG (ks := []) (ws := []) (zs := []) F hr hgd hb tkW (r.length.symm.trans hn) rfl I1 r .nil q
theorem pe_callG0 (F : FnG X.prog X.w X.K X.mg X.base k f fd ps sp) (hr : Room k X.A) (hgd : X.A.guards = some []) (hg : Gl X x) (hm : X.mg x = some (.ref f)) (hk : PySem.W.keepIn X.K (.ref f) = true) (hb : KB X.K fd ps [] 0 perm) (tkW : L2N.Takes X W)
    (hdb : (x == ("__debug__" : Str)) = false) : PE X (.Call (.Name x p) [] [] pos) (tCal W sp 0 0 perm tNil tNil) := by
  refine ⟨fun pins s σ H Q I h => ?_⟩
  refine wpAny_Call_Name_kw (ld_glob I hg hm ?_ hdb)
  obtain ⟨_, _, q⟩ := h
  exact PySem.W.callWith_K0 I.kIn hk (run_fnG (us := []) (vs := []) (ks := []) (ws := []) (zs := []) F hr hgd hb tkW rfl rfl I .nil .nil q)
theorem pe_callGK (F : FnG X.prog X.w X.K X.mg X.base k f fd ps sp) (hr : Room k X.A) (hgd : X.A.guards = some []) (hg : Gl X x) (hm : X.mg x = some (.ref f)) (hk : PySem.W.keepIn X.K (.ref f) = true) (hb : KB X.K fd ps ks np perm) (tkW : L2N.Takes X W)
    (ha : PA X (e :: es) t) (hkw : PK X kws tk) (hall : (backToKw pos (keywordEach kws X.env)).all (·.1.isSome) = true) (hks : (backToKw pos (keywordEach kws X.env)).filterMap (·.1) = ks)
    (hdb : (x == ("__debug__" : Str)) = false) (he : starEach (e :: es) X.env = (false, eval e X.env) :: starEach es X.env)
    (hpl : ((backTo pos (starEach (e :: es) X.env)).any (·.1) || (backToKw pos (keywordEach kws X.env)).any (·.1.isNone)) = false) :
    PE X (.Call (.Name x p) (e :: es) kws pos) (tCal W sp np ks.length perm t tk) := by
  refine ⟨fun pins s σ H Q I h => ?_⟩
  refine wpAny_Call_Name_kw (ld_glob I hg hm ?_ hdb)
  refine PySem.W.callWith_KW (h₀ := X.base) I.ok.mod.kin hk hall (thn (ha.run pos pins s σ H _ I h) fun us s1 ⟨vs, H1, I1, r, hn, q⟩ => ?_) hpl he
  refine thn (hkw.run pos pins s1 σ H1 _ I1 q) fun ws s2 ⟨zs, H2, I2, rz, hn2, q2⟩ => ⟨I2.kIn, ?_⟩
  rw [hks]
  exact run_fnG F hr hgd hb tkW (r.length.symm.trans hn) (rz.length.symm.trans hn2) I2 r rz q2
end
end FL

set_option maxRecDepth 100000
set_option maxHeartbeats 6400000
/-! set(xs) for any list of ints and texts, and len(set(xs)). -/
namespace FL
open PySem PySem.Spec PyProof.Rows L2

instance memU (k : Key) (us : List Key) : Decidable (k ∈ us) := decidable_of_iff (us.any (fun j => decide (j = k)) = true) (by simp)
theorem set_as {P : Program} {w : World} {h : Heap} {a : Addr} {S S' : Key → Bool} {n n' : Nat} (hS : h.SetOf (mixKind P w) a S n) (e : ∀ k, S k = S' k) (en : n = n') : h.SetOf (mixKind P w) a S' n' := by
  obtain rfl : S = S' := funext e
  exact en ▸ hS
def addU (us : List Key) (k : Key) : List Key := if k ∈ us then us else us ++ [k]
def uniq (ks : List Key) : List Key := ks.foldl addU []
theorem uniq_snoc (ks : List Key) (k : Key) : uniq (ks ++ [k]) = addU (uniq ks) k := by
  unfold uniq
  rw [List.foldl_append]
  rfl
theorem mem_addU {us : List Key} {k j : Key} : j ∈ addU us k ↔ j ∈ us ∨ j = k := by
  unfold addU
  split
  · rename_i h
    exact ⟨.inl, fun q => q.elim id fun e => e ▸ h⟩
  · simp
theorem len_addU (us : List Key) (k : Key) : (addU us k).length = if k ∈ us then us.length else us.length + 1 := by
  unfold addU
  split <;> simp
theorem len_foldU : ∀ (ks us : List Key), (ks.foldl addU us).length ≤ us.length + ks.length
  | [], us => Nat.le_refl _
  | k :: ks, us => by
    have h := len_foldU ks (addU us k)
    have g := len_addU us k
    rw [List.foldl_cons, List.length_cons]
    split at g <;> omega
theorem len_uniq (ks : List Key) : (uniq ks).length ≤ ks.length := by
  have h := len_foldU ks []
  unfold uniq
  simpa using h
theorem foldU_len : ∀ (ks us : List Key), us.Nodup → ((ks.foldl addU us).length = us.length + ks.length ↔ (ks.Nodup ∧ ∀ k ∈ ks, k ∉ us))
  | [], us, _ => by simp
  | k :: ks, us, hu => by
    rw [List.foldl_cons, List.length_cons, List.nodup_cons]
    by_cases h : k ∈ us
    · have e : addU us k = us := if_pos h
      have g := len_foldU ks us
      rw [e]
      exact ⟨fun q => by omega, fun q => absurd h (q.2 k (by simp))⟩
    · have e : addU us k = us ++ [k] := if_neg h
      have hu' : (us ++ [k]).Nodup := by
        rw [List.nodup_append]
        refine ⟨hu, by simp, fun a ha b hb => ?_⟩
        have : b = k := by simpa using hb
        subst this
        exact fun z => h (z ▸ ha)
      rw [e]
      have ih := foldU_len ks (us ++ [k]) hu'
      rw [List.length_append, List.length_singleton] at ih
      rw [show us.length + (ks.length + 1) = us.length + 1 + ks.length by omega, ih]
      constructor
      · rintro ⟨h1, h2⟩
        refine ⟨⟨fun z => h2 k z (by simp), h1⟩, fun j hj => ?_⟩
        rcases List.mem_cons.mp hj with e | hj
        · subst e; exact h
        · exact fun z => h2 j hj (List.mem_append_left _ z)
      · rintro ⟨⟨h1, h2⟩, h3⟩
        refine ⟨h2, fun j hj z => ?_⟩
        rcases List.mem_append.mp z with z | z
        · exact h3 j (List.mem_cons_of_mem _ hj) z
        · have : j = k := by simpa using z
          subst this; exact h1 hj
theorem uniq_len {ks : List Key} : (uniq ks).length = ks.length ↔ ks.Nodup := by
  have h := foldU_len ks [] (by simp)
  unfold uniq
  simpa using h

/-- the set after the first i keys -/
abbrev UAt (P : Program) (w : World) (h : Heap) (a : Addr) (us : List Key) : Prop := h.SetOf (mixKind P w) a (fun j => decide (j ∈ us)) us.length
section
variable {P : Program} {w : World} {A : Around} {R : Result → Shared → Prop} {it : Addr} {fp wr : List Addr} {G : Array GenState → Array GenState → Prop} {Pv : Nat → Value → Prop} {St : Nat → Shared → Prop}
theorem u_loop {ks : List Key} (W : WalksS P w A.in1 it fp wr G ks.length Pv St) (a : Addr) (fr : a ∉ fp) (vals : ∀ i v, Pv i v → ∃ k, ks[i]? = some k ∧ RelV (kV k) v) (room : ks.length + 1 < scanBound) :
    ∀ (left i : Nat) (s : Shared), ks.length - i = left → i ≤ ks.length → St i s → UAt P w s.heap a (uniq (ks.take i)) →
      (∀ t, Moved (a :: wr) G s t → UAt P w t.heap a (uniq ks) → R (.ok (.ret .none)) t) → codeAny (model P w) A (.builtin "set.update.loop" ⟨[.ref a, .ref it], []⟩) R s := by
  have notW : a ∉ wr := fun z => fr (W.sub _ z)
  have wider : ∀ b ∈ wr, b ∈ a :: wr := fun b z => .tail _ z
  intro left
  induction left with
  | zero =>
    intro i s e1 e2 st hS done
    obtain rfl : i = ks.length := by omega
    rw [List.take_length] at hS
    refine codeAny_builtin PyProof.Rows.F.entry_set_update_loop (by
      rw [Around.under_plainId PyProof.Rows.F.plain_set_update_loop _]
      exact wpAny_bind (M := model P w) (m := pyNext (.ref it)) (W.done s _ _ st fun t mv => wpAny_pure (done t (mv.mono wider) (setOf_at hS fun o ho => mv.heap a _ notW ho))))
  | succ left ih =>
    intro i s e1 e2 st hS done
    have lt : i < ks.length := by omega
    refine codeAny_builtin PyProof.Rows.F.entry_set_update_loop (by
      rw [Around.under_plainId PyProof.Rows.F.plain_set_update_loop _]
      refine wpAny_bind (M := model P w) (m := pyNext (.ref it)) (W.item i s _ _ lt st fun v t hv st' mv => ?_)
      obtain ⟨k, hk, rv⟩ := vals i v hv
      have hS1 := setOf_at (h' := t.heap) hS fun o ho => mv.heap a _ notW ho
      refine wpAny_bind (M := model P w) (m := holding [v] (setAdd a v)) (wpAny_holding ?_)
      unfold setAdd
      refine wpAny_holding (wpAny_bind ((mixKind P w).pyHash (k := k) (kV_is rv) ?_))
      have small : (uniq (ks.take i)).length + 1 < scanBound := by
        have := len_uniq (ks.take i)
        rw [List.length_take] at this
        omega
      refine wpAny_setAddHashed_of (knd := mixKind P w) (s := { t with toks := t.toks + 1 }) (kV_is rv) (key_scan rv) hS1 small fun h' sb hS2 => ?_
      have tk : ks.take (i + 1) = ks.take i ++ [k] := by rw [List.take_add_one, hk]; rfl
      have hS3 : UAt P w h' a (uniq (ks.take (i + 1))) := by
        refine set_as hS2 (fun j => ?_) ?_
        · rw [tk, uniq_snoc, Bool.eq_iff_iff]
          simp [mem_addU]
        · rw [tk, uniq_snoc, len_addU]
          by_cases z : k ∈ uniq (ks.take i) <;> simp [z]
      refine wpAny_pure ⟨plainId_quiet PyProof.Rows.F.plain_set_update_loop _, ih (i + 1) _ (by omega) lt (W.frame _ t _ _ st' (Nat.le_succ _) fun b hb o ho => (sb.2 b fun z => fr (z ▸ hb)).trans ho) hS3 fun t' mv' hS4 => ?_⟩
      exact done t' (Moved.trans W.gtrans ((mv.mono wider).then_heap (Nat.le_succ _) fun b o hb ho => (sb.2 b fun z => hb (z ▸ .head _)).trans ho) mv') hS4)
end
section
variable {P : Program} {w : World} {A : Around} {E : Value → Shared → Prop} {s : Shared}
abbrev emptySet (led : Bool) : Obj := { cls := .type "set", dict := none, data := .set #[] 0 (.fresh 0 0 led) }
/-- set(xs), xs a list of ints and texts -/
theorem set_of_list {l : Addr} {vs : List Value} {ks : List Key} {Q : Value → Shared → Prop} (calm : A.handled = none) (hl : s.heap.IsList l vs.toArray) (rel : Vals (ks.map kV) vs) (room : ks.length + 1 < scanBound)
    (go : ∀ (h' : Heap) (tk : Nat), UAt P w h' s.heap.objs.size (uniq ks) → (∀ b o, b < s.heap.objs.size → s.heap.get? b = some o → h'.get? b = some o) → Q (.ref s.heap.objs.size) { s with heap := h', toks := tk }) :
    wpAny (model P w) A (call (.type "set") [.ref l]) Q E s := by
  have len : vs.toArray.size = ks.length := by rw [List.size_toArray, ← rel.length, List.length_map]
  obtain ⟨f1, f2, f3⟩ := And.intro PySem.F.called_set.mro (And.intro PySem.F.called_set.made PySem.F.called_set.sub)
  obtain ⟨f4, f5, f6⟩ := And.intro PySem.F.called_set.notType (And.intro PySem.F.called_set.canCreate (PySem.F.typeCall_set_1 (.ref l)))
  obtain ⟨c, tl, f1⟩ := f1
  refine wpAny_call (codeAny_of_tree (show wpAny _ _ (callAny (.type "set") _) _ _ _ from wpAny_pure ⟨Code.quiet_builtin _ (by decide +kernel), codeAny_builtin F.entry_type_call (by
    rw [Around.under_plain (weight_type_call_type "set" [.ref l] []) rfl]
    repeat (any_goals (first | assumption | wp_step))
    refine codeAny_mono (code_set_new_1 (.ref l) (E := E) (Q₁ := fun u t => ∃ led, u = .ref s.heap.objs.size ∧ t = { s with heap := s.heap.push (emptySet led) }) fun led => ⟨led, rfl, rfl⟩) fun r t hr => ?_
    match r, hr with
    | .error _, hr => exact hr
    | .ok (.ret u), ⟨led, e1, e2⟩ => ?_
    subst e1; subst e2
    have at0 : (s.heap.push (emptySet led)).get? s.heap.objs.size = some (emptySet led) := Heap.get?_push_size _ rfl
    have ty : Shared.TypeIs { s with heap := s.heap.push (emptySet led) } (.ref s.heap.objs.size) "set" := ⟨_, at0, rfl⟩
    have g1 := PySem.F.called_set.init.lookup
    have g2 := PySem.F.called_set.init.bind (.ref s.heap.objs.size)
    repeat (any_goals (first | assumption | wp_step))
    refine codeAny_mono (codeAny_call_builtin (R := wants (fun u t => u = .none ∧ ∃ h' tk, t = { s with heap := h', toks := tk } ∧ UAt P w h' s.heap.objs.size (uniq ks) ∧ ∀ b o, b < s.heap.objs.size → s.heap.get? b = some o → h'.get? b = some o) E)
      PySem.F.called_set.init.plain PySem.F.entry_set_init (check_set_init_1 ty ?filled)) fun r t hr => ?after
    case after =>
      match r, hr with
      | .error _, hr => exact hr
      | .ok (.ret u), ⟨e1, h', tk, e2, e3, e4⟩ =>
        subst e1; subst e2
        repeat (any_goals (first | assumption | wp_step))
        exact go _ _ e3 e4
    case filled =>
      obtain ⟨⟨c1, d1, t1, s1⟩, ho, e1, n1, e2⟩ := hl
      cases e1; cases e2
      have ho1 := Heap.get?_push_of_some (emptySet led) ho
      have hl1 : (s.heap.push (emptySet led)).IsList l vs.toArray := ⟨_, ho1, rfl, n1, rfl⟩
      have q1 := PySem.F.sub_list_set
      have q2 := PySem.F.sub_list_frozenset
      have q3 : (Value.type "list" == Value.type "dict") = false := by decide
      unfold Builtin.«set.__init__» noKeywords Builtin.Frozenset.updateFrom
      generalize hI : pyIter = I
      wp_walk
      subst hI
      have low : l < s.heap.objs.size := Heap.lt_size ho
      refine wpAny_pyIter_list hl1 (wpAny_bind (wpAny_runValue ?_))
      have apart : l ≠ (s.heap.push (emptySet led)).objs.size := Heap.size_push _ _ ▸ Nat.ne_of_lt (Nat.lt_succ_of_lt low)
      have calm3 : A.in1.in1.in1.handled = none := by simp [calm]
      have W := (Walks.list (prog := P) (w := w) (A := A.in1.in1.in1) calm3 (s.heap.push (emptySet led)).objs.size l apart vs.toArray).toS
      rw [len] at W
      refine u_loop W s.heap.objs.size (fun z => ?_) (fun i v hv => ?_) room ks.length 0 _ (Nat.sub_zero _) (Nat.zero_le _) ⟨⟨_, Heap.get?_push_size _ rfl, rfl, rfl⟩, hl1.push _⟩ ?_ fun t mv hS => ?_
      · rw [Heap.size_push] at z
        rcases List.mem_cons.mp z with z | z
        · exact absurd z (Nat.ne_of_lt (Nat.lt_succ_self _))
        · exact absurd (List.mem_singleton.mp z) (Nat.ne_of_gt low)
      · have hv' : vs[i]? = some v := by rw [← List.getElem?_toArray]; exact hv
        have lt : i < ks.length := by
          have := (List.getElem?_eq_some_iff.mp hv').1
          rw [← rel.length, List.length_map] at this
          exact this
        obtain ⟨u, hu, ru⟩ := rel.get (i := i) (x := kV ks[i]) (by rw [List.getElem?_map, List.getElem?_eq_getElem lt]; rfl)
        rw [hv'] at hu
        cases hu
        exact ⟨ks[i], List.getElem?_eq_getElem lt, ru⟩
      · have at1 := Heap.get?_push_of_some { cls := .type "list_iterator", data := .fields #[.ref l, .int 0 0] } at0
        exact ⟨emptySet led, #[], 0, _, at1, ⟨rfl, rfl, rfl⟩, rfl, fun _ z => by simp at z, fun k => by simp [uniq], by decide, by rfl, by simp [uniq]⟩
      · obtain ⟨h2, g2, dr2, tk2, os2⟩ := t
        obtain ⟨rfl, rfl, rfl⟩ : g2 = s.gens ∧ dr2 = s.drawn ∧ os2 = s.os := ⟨mv.gens, mv.drawn, mv.os⟩
        refine wpAny_pure (wpAny_pure ⟨rfl, h2, tk2, rfl, hS, fun b o hb hbo => mv.heap b o (fun z => ?_) (Heap.get?_push_of_some _ (Heap.get?_push_of_some _ hbo))⟩)
        rcases List.mem_cons.mp z with z | z
        · exact absurd z (Nat.ne_of_lt hb)
        · rw [Heap.size_push] at z
          exact absurd (List.mem_singleton.mp z) (Nat.ne_of_lt (Nat.lt_succ_of_lt hb)))⟩))
end
/-- len(set(xs)), xs a list of ints and texts -/
def tLenU (K : PySem.W.Frag) (ta : TE) : TE := fun σ H Q => ta σ H fun x H1 => ∃ l ks, x = .ref l ∧ SqL K H1 l (ks.map kV) ∧ ks.length + 1 < scanBound ∧ Q (.int ((uniq ks).length : Nat)) H1
theorem scan_small {n : Nat} (h : n + 1 < scanBound) : (n : Int) < 2 ^ 63 := by
  unfold scanBound at h
  omega
theorem pe_lenU {X : Cx} {a : Expr} {ta : TE} {p p2 q pos : Pos} (calm : X.calm = true) (gl : Gl X "len") (ml : X.mg "len" = none) (gs : Gl X "set") (ms : X.mg "set" = none) (ha : PE X a ta)
    (na : starEach [a] X.env = (false, eval a X.env) :: starEach [] X.env) : PE X (.Call (.Name "len" p) [.Call (.Name "set" p2) [a] [] q] [] pos) (tLenU X.K ta) := by
  refine ⟨fun pins s σ H Q I h => Call_ (ld_blt I gl ml boot_len (PyProof.Rows.callWith_builtin1 (PyProof.Rows.args_cons (Call_ (ld_blt I gs ms boot_set ?_)) rfl) rfl rfl))⟩
  refine PyProof.Rows.callWith_type1 (PyProof.Rows.args_cons (thn (ha.run pins s σ H _ I h) fun v s1 ⟨x, H1, I1, r1, l, ks, e, hq, room, q1⟩ => PyProof.Rows.args_nil ?_) na) na rfl
  subst e
  cases r1
  obtain ⟨its, r, pl, _⟩ := I1.list hq
  refine set_of_list (I1.ok.hd calm) pl.isList r room fun h' tk hS hk => PyProof.Rows.args_nil ?_
  obtain ⟨o, es, ep, t, ho, hex, hd, _, _, _, hf, hn⟩ := hS
  have I2 : Inv X pins σ H1 { s1 with heap := h', toks := tk } := I1.kept fun b o e => hk b o (Heap.lt_size e) e
  have small := scan_small (n := (uniq ks).length) (by have := len_uniq ks; omega)
  exact call_len_set ho hex hd hf (by rw [hn]; exact small) ⟨.int _, H1, I2.tok _, ⟨_, by rw [hn]⟩, q1⟩
end FL

set_option maxRecDepth 100000
set_option maxHeartbeats 6400000
/-! set(xs) for any kind of keys: the loop, given how one key is added. -/
namespace FL
open PySem PySem.Spec PyProof.Rows L2
section
variable {P : Program} {w : World} {A : Around} {R : Result → Shared → Prop} {it : Addr} {fp : List Addr} {G : Array GenState → Array GenState → Prop} {Pv : Nat → Value → Prop} {St : Nat → Shared → Prop} {n : Nat} {Kd : Nat → Heap → Prop}
theorem add_loop (W : WalksS P w A.in1 it fp [it] G n Pv St) (a : Addr) (fr : a ∉ fp)
    (keep : ∀ i h h', Kd i h → (∀ b o, b ≠ it → h.get? b = some o → h'.get? b = some o) → Kd i h')
    (add : ∀ i v (t : Shared) (Q : Bool → Shared → Prop) (E : Value → Shared → Prop), i < n → Pv i v → Kd i t.heap → (∀ r h' tk, t.toks ≤ tk → Heap.SameBut a t.heap h' → Kd (i + 1) h' → Q r { t with heap := h', toks := tk }) → wpAny (model P w) A.in1 (setAdd a v) Q E t) :
    ∀ (left i : Nat) (s : Shared), n - i = left → i ≤ n → St i s → Kd i s.heap →
      (∀ t, Moved [a, it] G s t → Kd n t.heap → R (.ok (.ret .none)) t) → codeAny (model P w) A (.builtin "set.update.loop" ⟨[.ref a, .ref it], []⟩) R s := by
  have wider : ∀ b ∈ [it], b ∈ [a, it] := fun b z => .tail _ z
  have off : ∀ {s t : Shared}, Moved [it] G s t → ∀ b o, b ≠ it → s.heap.get? b = some o → t.heap.get? b = some o := fun mv b o ne ho => mv.heap b o (fun z => ne (List.mem_singleton.mp z)) ho
  intro left
  induction left with
  | zero =>
    intro i s e1 e2 st hK done
    obtain rfl : i = n := by omega
    refine codeAny_builtin PyProof.Rows.F.entry_set_update_loop (by
      rw [Around.under_plainId PyProof.Rows.F.plain_set_update_loop _]
      exact wpAny_bind (M := model P w) (m := pyNext (.ref it)) (W.done s _ _ st fun t mv => wpAny_pure (done t (mv.mono wider) (keep _ _ _ hK (off mv)))))
  | succ left ih =>
    intro i s e1 e2 st hK done
    have lt : i < n := by omega
    refine codeAny_builtin PyProof.Rows.F.entry_set_update_loop (by
      rw [Around.under_plainId PyProof.Rows.F.plain_set_update_loop _]
      refine wpAny_bind (M := model P w) (m := pyNext (.ref it)) (W.item i s _ _ lt st fun v t hv st' mv => ?_)
      refine wpAny_bind (M := model P w) (m := holding [v] (setAdd a v)) (wpAny_holding (add i v t _ _ lt hv (keep _ _ _ hK (off mv)) fun r h' tk le sb hK2 => ?_))
      refine wpAny_pure ⟨plainId_quiet PyProof.Rows.F.plain_set_update_loop _, ih (i + 1) _ (by omega) lt (W.frame _ t _ _ st' le fun b hb o ho => (sb.2 b fun z => fr (z ▸ hb)).trans ho) hK2 fun t' mv' hK3 => ?_⟩
      exact done t' (Moved.trans W.gtrans ((mv.mono wider).then_heap le fun b o hb ho => (sb.2 b fun z => hb (z ▸ .head _)).trans ho) mv') hK3)
end
section
variable {P : Program} {w : World} {A : Around} {E : Value → Shared → Prop} {s : Shared}
/-- set.__new__ with one argument: the new set's table says whether its order may be followed -/
theorem set_new1 (a : Value) {Q₁ : Value → Shared → Prop} (h : Q₁ (.ref s.heap.objs.size) { s with heap := s.heap.push (emptySet (!w.params.followText "set-order")) }) :
    codeAny (model P w) A (.call (.builtin "set.__new__") ⟨[.type "set", a], []⟩) (wants Q₁ E) s := by
  refine codeAny_of_tree (show wpAny _ A.in1 (do checkBuiltinCall "set.__new__" ⟨[.type "set", a], []⟩; again (.builtin "set.__new__" ⟨[.type "set", a], []⟩)) _ _ s from
    wpAny_bind (wpAny_of_eq (PySem.F.newCall_set_1 a) (wpAny_pure ⟨plainId_quiet PySem.F.plain_set_new _, codeAny_builtin PySem.F.entry_set_new ?_⟩)))
  rw [Around.under_plainId PySem.F.plain_set_new _]
  unfold Builtin.«set.__new__» Builtin.Frozenset.newClass
  have self := sub_set_self
  obtain ⟨hp, gs, dr, tk, os⟩ := s
  dsimp only
  wp_walk
  refine wpAny_askSetting (wpAny_pure ?_)
  dsimp only
  simp only [newObj]
  exact wpAny_bind (wpAny_alloc (wpAny_pure (wpAny_pure h)))
/-- set(xs), xs a list, by how one key is added -/
theorem set_by {l : Addr} {vs : List Value} {Q : Value → Shared → Prop} (calm : A.handled = none) (hl : s.heap.IsList l vs.toArray) (Kd : Nat → Heap → Prop)
    (new : ∀ led h, led = (!w.params.followText "set-order") → h.get? s.heap.objs.size = some (emptySet led) → (∀ b o, s.heap.get? b = some o → h.get? b = some o) → Kd 0 h)
    (keep : ∀ i h h', Kd i h → (∀ b o, b ≠ s.heap.objs.size + 1 → h.get? b = some o → h'.get? b = some o) → Kd i h')
    (add : ∀ i v (t : Shared) (Q : Bool → Shared → Prop) (E : Value → Shared → Prop), vs[i]? = some v → Kd i t.heap → (∀ r h' tk, t.toks ≤ tk → Heap.SameBut s.heap.objs.size t.heap h' → Kd (i + 1) h' → Q r { t with heap := h', toks := tk }) → wpAny (model P w) A.in1.in1.in1 (setAdd s.heap.objs.size v) Q E t)
    (go : ∀ (h' : Heap) (tk : Nat), Kd vs.length h' → (∀ b o, b < s.heap.objs.size → s.heap.get? b = some o → h'.get? b = some o) → Q (.ref s.heap.objs.size) { s with heap := h', toks := tk }) :
    wpAny (model P w) A (call (.type "set") [.ref l]) Q E s := by
  have len : vs.toArray.size = vs.length := List.size_toArray
  obtain ⟨f1, f2, f3⟩ := And.intro PySem.F.called_set.mro (And.intro PySem.F.called_set.made PySem.F.called_set.sub)
  obtain ⟨f4, f5, f6⟩ := And.intro PySem.F.called_set.notType (And.intro PySem.F.called_set.canCreate (PySem.F.typeCall_set_1 (.ref l)))
  obtain ⟨c, tl, f1⟩ := f1
  refine wpAny_call (codeAny_of_tree (show wpAny _ _ (callAny (.type "set") _) _ _ _ from wpAny_pure ⟨Code.quiet_builtin _ (by decide +kernel), codeAny_builtin F.entry_type_call (by
    rw [Around.under_plain (weight_type_call_type "set" [.ref l] []) rfl]
    repeat (any_goals (first | assumption | wp_step))
    refine codeAny_mono (set_new1 (.ref l) (E := E) (Q₁ := fun u t => ∃ led, led = (!w.params.followText "set-order") ∧ u = .ref s.heap.objs.size ∧ t = { s with heap := s.heap.push (emptySet led) }) ⟨_, rfl, rfl, rfl⟩) fun r t hr => ?_
    match r, hr with
    | .error _, hr => exact hr
    | .ok (.ret u), ⟨led, eL, e1, e2⟩ => ?_
    subst e1; subst e2
    have at0 : (s.heap.push (emptySet led)).get? s.heap.objs.size = some (emptySet led) := Heap.get?_push_size _ rfl
    have ty : Shared.TypeIs { s with heap := s.heap.push (emptySet led) } (.ref s.heap.objs.size) "set" := ⟨_, at0, rfl⟩
    have g1 := PySem.F.called_set.init.lookup
    have g2 := PySem.F.called_set.init.bind (.ref s.heap.objs.size)
    repeat (any_goals (first | assumption | wp_step))
    refine codeAny_mono (codeAny_call_builtin (R := wants (fun u t => u = .none ∧ ∃ h' tk, t = { s with heap := h', toks := tk } ∧ Kd vs.length h' ∧ ∀ b o, b < s.heap.objs.size → s.heap.get? b = some o → h'.get? b = some o) E)
      PySem.F.called_set.init.plain PySem.F.entry_set_init (check_set_init_1 ty ?filled)) fun r t hr => ?after
    case after =>
      match r, hr with
      | .error _, hr => exact hr
      | .ok (.ret u), ⟨e1, h', tk, e2, e3, e4⟩ =>
        subst e1; subst e2
        repeat (any_goals (first | assumption | wp_step))
        exact go _ _ e3 e4
    case filled =>
      obtain ⟨⟨c1, d1, t1, s1⟩, ho, e1, n1, e2⟩ := hl
      cases e1; cases e2
      have ho1 := Heap.get?_push_of_some (emptySet led) ho
      have hl1 : (s.heap.push (emptySet led)).IsList l vs.toArray := ⟨_, ho1, rfl, n1, rfl⟩
      have q1 := PySem.F.sub_list_set
      have q2 := PySem.F.sub_list_frozenset
      have q3 : (Value.type "list" == Value.type "dict") = false := by decide
      unfold Builtin.«set.__init__» noKeywords Builtin.Frozenset.updateFrom
      generalize hI : pyIter = I
      wp_walk
      subst hI
      have low : l < s.heap.objs.size := Heap.lt_size ho
      refine wpAny_pyIter_list hl1 (wpAny_bind (wpAny_runValue ?_))
      have apart : l ≠ (s.heap.push (emptySet led)).objs.size := Heap.size_push _ _ ▸ Nat.ne_of_lt (Nat.lt_succ_of_lt low)
      have calm3 : A.in1.in1.in1.handled = none := by simp [calm]
      have W := (Walks.list (prog := P) (w := w) (A := A.in1.in1.in1) calm3 (s.heap.push (emptySet led)).objs.size l apart vs.toArray).toS
      rw [len] at W
      have szE : (s.heap.push (emptySet led)).objs.size = s.heap.objs.size + 1 := Heap.size_push _ _
      refine add_loop (Kd := Kd) W s.heap.objs.size (fun z => ?_) (fun i h h' hK k => keep i h h' hK fun b o ne ho => k b o (by rw [szE]; exact ne) ho) (fun i v t Q E _ hv hK q => add i v t Q E (by rw [← List.getElem?_toArray]; exact hv) hK q) vs.length 0 _ (Nat.sub_zero _) (Nat.zero_le _)
        ⟨⟨_, Heap.get?_push_size _ rfl, rfl, rfl⟩, hl1.push _⟩ ?_ fun t mv hK => ?_
      · rw [szE] at z
        rcases List.mem_cons.mp z with z | z
        · exact absurd z (Nat.ne_of_lt (Nat.lt_succ_self _))
        · exact absurd (List.mem_singleton.mp z) (Nat.ne_of_gt low)
      · exact new led _ eL (Heap.get?_push_of_some _ at0) fun b o ho => Heap.get?_push_of_some _ (Heap.get?_push_of_some _ ho)
      · obtain ⟨h2, g2, dr2, tk2, os2⟩ := t
        obtain ⟨rfl, rfl, rfl⟩ : g2 = s.gens ∧ dr2 = s.drawn ∧ os2 = s.os := ⟨mv.gens, mv.drawn, mv.os⟩
        refine wpAny_pure (wpAny_pure ⟨rfl, h2, tk2, rfl, hK, fun b o hb hbo => mv.heap b o (fun z => ?_) (Heap.get?_push_of_some _ (Heap.get?_push_of_some _ hbo))⟩)
        rcases List.mem_cons.mp z with z | z
        · exact absurd z (Nat.ne_of_lt hb)
        · rw [szE] at z
          exact absurd (List.mem_singleton.mp z) (Nat.ne_of_lt (Nat.lt_succ_of_lt hb)))⟩))
/-- set(xs), xs a list of ints: a set that can be walked -/
theorem set_ints {l : Addr} {vs : List Value} {ns : List Int} {Q : Value → Shared → Prop} (calm : A.handled = none) (hl : s.heap.IsList l vs.toArray) (rel : Vals (ns.map V.int) vs) (room : ns.length + 1 < scanBound)
    (go : ∀ (h' : Heap) (tk : Nat), SetR w h' s.heap.objs.size (fun j => decide (Sum.inl j ∈ uniq (ns.map Sum.inl))) (uniq (ns.map Sum.inl)).length → (∀ b o, b < s.heap.objs.size → s.heap.get? b = some o → h'.get? b = some o) → Q (.ref s.heap.objs.size) { s with heap := h', toks := tk }) :
    wpAny (model P w) A (call (.type "set") [.ref l]) Q E s := by
  have len : vs.length = ns.length := by rw [← rel.length, List.length_map]
  refine set_by calm hl (fun i h => SetR w h s.heap.objs.size (fun j => decide (Sum.inl j ∈ uniq ((ns.map Sum.inl).take i))) (uniq ((ns.map Sum.inl).take i)).length) (fun led h eL at0 _ => ?_) (fun i h h' hK k => hK.at fun o ho => k _ o (Nat.ne_of_lt (Nat.lt_succ_self _)) ho) (fun i v t Q E hv hK q => ?_) fun h' tk hK k => ?_
  · refine ⟨emptySet led, #[], 0, _, at0, ⟨rfl, rfl, rfl⟩, rfl, fun _ z => by simp at z, by simp, fun k => by simp [uniq], by decide, by rfl, by simp [uniq], ?_, ?_⟩
    · exact List.Pairwise.nil
    · subst eL
      cases q : w.params.followText "set-order" with
      | true => exact .inl rfl
      | false => exact .inr rfl
  · have lt : i < ns.length := by rw [← len]; exact (List.getElem?_eq_some_iff.mp hv).1
    obtain ⟨u, hu, tk, eu⟩ := rel.get (i := i) (x := V.int ns[i]) (by rw [List.getElem?_map, List.getElem?_eq_getElem lt]; rfl)
    rw [hv] at hu
    cases hu
    subst eu
    have small : (uniq ((ns.map Sum.inl).take i)).length + 1 < scanBound := by
      have := len_uniq ((ns.map Sum.inl).take i)
      rw [List.length_take] at this
      omega
    have tk1 : (ns.map Sum.inl).take (i + 1) = (ns.map Sum.inl).take i ++ [(Sum.inl ns[i] : Key)] := by rw [List.take_add_one, List.getElem?_map, List.getElem?_eq_getElem lt]; rfl
    unfold setAdd
    refine wpAny_holding (wpAny_bind ((intKind P w).pyHash (k := ns[i]) (intKind_is P w _ _) ?_))
    refine setR_add_hashed (s := { t with toks := t.toks + 1 }) hK small fun h' sb hR => q _ h' _ (Nat.le_succ _) sb ?_
    have e1 : (uniq ((ns.map Sum.inl).take (i + 1))).length = if decide (Sum.inl ns[i] ∈ uniq ((ns.map Sum.inl).take i)) = true then (uniq ((ns.map Sum.inl).take i)).length else (uniq ((ns.map Sum.inl).take i)).length + 1 := by
      rw [tk1, uniq_snoc, len_addU]
      by_cases z : (Sum.inl ns[i] : Key) ∈ uniq ((ns.map Sum.inl).take i) <;> simp [z]
    rw [e1]
    refine hR.congr fun k => ?_
    rw [tk1, uniq_snoc, Bool.eq_iff_iff]
    simp [mem_addU]
  · rw [len, show (ns.map Sum.inl).take ns.length = (ns.map Sum.inl : List Key) from by rw [← List.length_map (f := (Sum.inl : Int → Key)), List.take_length]] at hK
    exact go h' tk hK k
end
end FL

set_option maxRecDepth 100000
set_option maxHeartbeats 6400000
/-! len(set(xs)), xs a list of at most three tuples of ints and texts. -/
namespace FL
open PySem PySem.Spec PyProof.Rows L2
abbrev mh (P : Program) (w : World) (k : List Key) : Int := tupleKeyHash (mixKind P w) k
abbrev IsM (P : Program) (w : World) (h : Heap) (k : List Key) (a : Addr) : Prop := IsTupleKey (mixKind P w) h k a
section
variable {P : Program} {w : World} {A : Around} {E : Value → Shared → Prop} {s : Shared}
theorem m_items {k : List Key} {vs : List Value} (h : ItemsAre (mixKind P w) k vs) : ∀ v ∈ vs, ∀ n, ofAClassStatement n v = pure false ∧ ∃ b, hashByValue n v = pure b := by
  induction h with
  | nil => intro v hv; cases hv
  | @cons k0 v' ks vs h1 _ ih =>
    intro v hv n
    rcases List.mem_cons.mp hv with e | hv
    · subst e
      rcases keyIs_shape h1 with ⟨i, t, _, e⟩ | ⟨x, t, _, e⟩
      · subst e
        exact ⟨by cases n <;> rfl, true, by cases n <;> rfl⟩
      · subst e
        exact ⟨by cases n <;> rfl, false, by cases n <;> rfl⟩
    · exact ih v hv n
theorem m_class {k : List Key} {b : Addr} {Q : Bool → Shared → Prop} (hk : IsM P w s.heap k b) (h : Q false s) : wpAny (model P w) A (ofAClassStatement 8 (.ref b)) Q E s := by
  have hT := hk.typeIs
  obtain ⟨o, items, n, ho, _, hd, hi⟩ := hk
  unfold ofAClassStatement
  refine wpAny_bind (wpAny_typeOf hT ?_)
  dsimp only
  have e : (("tuple" : String) == "tuple") = true := by decide
  simp only [e, if_true, Bool.not_true, Bool.false_eq_true, if_false]
  try refine wpAny_bind (wpAny_pure ?_)
  try simp only [Bool.not_true, Bool.false_eq_true, if_false]
  show wpAny _ _ (seqItems? (.ref b) >>= _) _ _ s
  refine wpAny_bind (wpAny_seqItems ho hd ?_)
  dsimp only
  refine wpAny_bind ?_
  show wpAny _ _ (forIn items _ _) _ _ s
  rw [← Array.forIn_toList]
  refine wpAny_forIn_list _ (fun rest r s' => r.1 = none ∧ s' = s ∧ ∀ v ∈ rest, ∀ n, ofAClassStatement n v = pure false) _ ?_ ?_ _ _ ⟨rfl, rfl, fun v hv n => (m_items hi v hv n).1⟩
  · rintro v rest r s' ⟨hr, rfl, hall⟩
    rw [hall v List.mem_cons_self]
    refine wpAny_bind (wpAny_pure ?_)
    simp only [Bool.false_eq_true, if_false]
    exact wpAny_pure ⟨rfl, rfl, fun u hu' => hall u (List.mem_cons_of_mem _ hu')⟩
  · rintro ⟨r1, r2⟩ s' ⟨hr, rfl, _⟩
    simp only at hr
    subst hr
    exact wpAny_pure h
theorem m_byval {k : List Key} {b : Addr} {Q : Bool → Shared → Prop} (hk : IsM P w s.heap k b) (h : ∀ r, Q r s) : wpAny (model P w) A (hashByValue 8 (.ref b)) Q E s := by
  have hT := hk.typeIs
  obtain ⟨o, items, n, ho, _, hd, hi⟩ := hk
  unfold hashByValue
  refine wpAny_bind (wpAny_specialOf hT F.slot_tuple_hash.lookup ?_)
  show wpAny _ _ (seqItems? (.ref b) >>= _) _ _ s
  refine wpAny_bind (wpAny_seqItems ho hd ?_)
  refine wpAny_bind ?_
  show wpAny _ _ (forIn items _ _) _ _ s
  rw [← Array.forIn_toList]
  refine wpAny_forIn_list _ (fun rest r s' => (r.1 = none ∨ ∃ b, r.1 = some b) ∧ s' = s ∧ ∀ v ∈ rest, ∀ n, ∃ b, hashByValue n v = pure b) _ ?_ ?_ _ _ ⟨.inl rfl, rfl, fun v hv n => (m_items hi v hv n).2⟩
  · rintro v rest r s' ⟨hr, rfl, hall⟩
    obtain ⟨b, eb⟩ := hall v List.mem_cons_self 7
    rw [eb]
    refine wpAny_bind (wpAny_pure ?_)
    cases b with
    | true =>
      simp only [Bool.not_true, Bool.false_eq_true, if_false]
      exact wpAny_pure ⟨.inl rfl, rfl, fun u hu' => hall u (List.mem_cons_of_mem _ hu')⟩
    | false =>
      simp only [Bool.not_false, if_true]
      exact wpAny_pure (wpAny_pure (h _))
  · rintro ⟨r1, r2⟩ s' ⟨hr, rfl, _⟩
    simp only at hr
    rcases hr with e | ⟨b, e⟩
    · subst e
      exact wpAny_pure (h _)
    · subst e
      exact wpAny_pure (h _)
theorem m_seen {k : List Key} {b : Addr} {Q : Bool → Shared → Prop} (hk : IsM P w s.heap k b) {ys : List Value} (hy : ∀ y ∈ ys, ∃ k' c, y = Value.ref c ∧ IsM P w s.heap k' c) (h : Q false s) :
    wpAny (model P w) A (searchCouldBeSeen (.ref b) ys) Q E s := by
  unfold searchCouldBeSeen
  refine wpAny_bind ?_
  refine wpAny_forIn_list _ (fun rest r s' => r.1 = none ∧ s' = s ∧ ∀ y ∈ rest, ∃ k' c, y = Value.ref c ∧ IsM P w s.heap k' c) _ ?_ ?_ _ _ ⟨rfl, rfl, hy⟩
  · rintro v rest r s' ⟨hr, rfl, hall⟩
    obtain ⟨k', c, rfl, hc⟩ := hall v List.mem_cons_self
    have rest' : ∀ y ∈ rest, ∃ k' c, y = Value.ref c ∧ IsM P w s'.heap k' c := fun u hu' => hall u (List.mem_cons_of_mem _ hu')
    dsimp only
    by_cases hv : (b == c || (carriedByValue (.ref b) && carriedByValue (.ref c))) = true
    · refine wp_if_pos hv ?_
      exact wpAny_pure ⟨rfl, rfl, rest'⟩
    · refine wp_if_neg hv ?_
      refine wpAny_bind (wpAny_eqIsQuiet_tuple hk ?_)
      simp only [Bool.not_true, Bool.false_eq_true, if_false]
      refine wpAny_bind (wpAny_eqIsQuiet_tuple hc ?_)
      simp only [Bool.not_true, Bool.false_eq_true, if_false]
      refine wpAny_bind (m_class hk ?_)
      simp only [Bool.false_eq_true, if_false]
      refine wpAny_bind (m_class hc ?_)
      simp only [Bool.false_eq_true, if_false]
      exact wpAny_pure ⟨rfl, rfl, rest'⟩
  · rintro ⟨r1, r2⟩ s' ⟨hr, rfl, _⟩
    simp only at hr
    subst hr
    exact wpAny_pure h
/-- a small set of tuples -/
structure MT (P : Program) (w : World) (h : Heap) (a : Addr) (L : List (Addr × List Key)) (es : Array (Int × Value)) (ep : Nat) (t : SetTable) : Prop where
  ob : ∃ o, h.get? a = some o ∧ o.ExactSet ∧ o.data = .set es ep t
  rows : es.toList = L.map fun p => (mh P w p.2, Value.ref p.1)
  tab : TabOk t (L.map fun p => mh P w p.2)
  nd : (L.map (·.2)).Nodup
  tup : ∀ p ∈ L, IsM P w h p.2 p.1
  m7 : t.mask = 7
  few : L.length ≤ 3
variable {a : Addr} {L : List (Addr × List Key)} {es : Array (Int × Value)} {ep : Nat} {t : SetTable}
theorem MT.size (R : MT P w s.heap a L es ep t) : es.size = L.length := by
  have h := congrArg List.length R.rows
  rw [Array.length_toList, List.length_map] at h
  exact h
theorem MT.fits (R : MT P w s.heap a L es ep t) : t.fits es.size = true := by
  have h1 := R.tab.sz
  rw [List.length_map] at h1
  have h2 := R.size
  have h3 := R.few
  have h4 := R.m7
  unfold SetTable.fits SetTable.fill
  rw [R.tab.dm, Bool.and_eq_true, beq_iff_eq, decide_eq_true_eq]
  show t.place.size = es.size ∧ t.place.size + 0 ≤ t.mask
  omega
theorem MT.entry (R : MT P w s.heap a L es ep t) {i : Nat} {p : Addr × List Key} (h : L[i]? = some p) : es[i]? = some (mh P w p.2, Value.ref p.1) := by
  rw [← Array.getElem?_toList, R.rows, List.getElem?_map, h]; rfl
theorem MT.gw (R : MT P w s.heap a L es ep t) : ¬ t.gaveWay = true := by
  unfold SetTable.gaveWay
  rw [R.m7]
  decide
/-- the probe at the c-th step -/
abbrev pr (t : SetTable) (h : Int) (c : Nat) : SetTable.Probe := nth t.mask (runAt t.mask (SetTable.bits h % (t.mask + 1)) (SetTable.bits h)) c
theorem m_search (R : MT P w s.heap a L es ep t) {x : Addr} {k : List Key} (hx : IsM P w s.heap k x) (hu : A.units < cLine) {K : Nat} (hKf : K < 10 * SetTable.turns t.mask)
    (hK : way t.mask (mh P w k) K ∉ t.place.toList) (hKb : ∀ c, c < K → way t.mask (mh P w k) c ∈ t.place.toList) {Q : SetFound → Shared → Prop}
    (hin : k ∈ L.map (·.2) → Q (.there none) s) (hout : k ∉ L.map (·.2) → Q (.free (way t.mask (mh P w k) K) false) s) :
    ∀ (f c : Nat) (stand : Option SetTable.Probe), stand.getD (t.probeStart (mh P w k)) = pr t (mh P w k) c → c ≤ K → K - c < f →
      (∀ (i : Nat) p, L[i]? = some p → p.2 = k → ∃ c', c ≤ c' ∧ c' < K ∧ t.place.toList[i]? = some (way t.mask (mh P w k) c')) →
      wpAny (model P w) A (setSearchFrom a (.ref x) (mh P w k) true f stand) Q E s
  | 0, c, stand, _, _, hf, _ => absurd hf (Nat.not_lt_zero _)
  | f + 1, c, stand, hst, hc, hf, hre => by
    obtain ⟨o, ho, hex, hd⟩ := R.ob
    rw [setSearchFrom_succ]
    refine wpAny_bind (wpAny_setState_of ho hd R.fits ?_)
    dsimp only
    refine wp_if_neg R.gw ?_
    try refine wpAny_bind (wpAny_pure ?_)
    have hnd : (pr t (mh P w k) c).dummy = none := by
      have key : ∀ (n : Nat) (p : SetTable.Probe), p.dummy = none → (nth t.mask p n).dummy = none := by
        intro n
        induction n with
        | zero => intro p h; exact h
        | succ n ih =>
          intro p h
          refine ih (adv t.mask p) ?_
          unfold adv
          split <;> exact h
      exact key c _ rfl
    have sh : ∀ q, nth t.mask (pr t (mh P w k) c) q = pr t (mh P w k) (c + q) := fun q => (nth_add t.mask c _ q).symm
    have e1 : ∀ q, (nth t.mask (pr t (mh P w k) c) q).j = way t.mask (mh P w k) (c + q) := fun q => congrArg SetTable.Probe.j (sh q)
    have spec := go_spec t R.tab.ris R.tab.dm (fun i => (es[i]?.map (·.1)).getD 0) (mh P w k) (10 * SetTable.turns t.mask) (K - c) _ hnd (by omega)
      (fun q hq => by rw [e1]; exact hKb (c + q) (by omega)) (by rw [e1, show c + (K - c) = K by omega]; exact hK)
    have hashAt : ∀ (i : Nat) p, L[i]? = some p → (fun i => (es[i]?.map (·.1)).getD 0) i = mh P w p.2 := fun i p hp => by
      show (es[i]?.map (·.1)).getD 0 = _
      rw [R.entry hp]; rfl
    rcases spec with ⟨q, i, hq, hi, hh, hno, hpr⟩ | ⟨hno, hpr⟩
    · have hpr' : t.probe (fun i => (es[i]?.map (·.1)).getD 0) (mh P w k) (stand.getD (t.probeStart (mh P w k))) = some (.candidate (way t.mask (mh P w k) (c + q)) i (pr t (mh P w k) (c + (q + 1)))) := by
        rw [hst, ← e1, ← sh]
        exact hpr
      rw [hpr']
      dsimp only
      rw [e1] at hi
      have hil : i < L.length := by
        have h1 : i < t.place.toList.length := (List.getElem?_eq_some_iff.mp hi).1
        have h2 := R.tab.sz
        rw [List.length_map] at h2
        rw [Array.length_toList] at h1
        omega
      have hp : L[i]? = some L[i] := List.getElem?_eq_getElem hil
      generalize hpe : L[i] = p at hp
      have hmem : p ∈ L := List.mem_of_getElem? hp
      have hpt := R.tup p hmem
      have rest : wpAny (model P w) A (searchRest a (.ref x) (mh P w k) true f es t (way t.mask (mh P w k) (c + q)) i (pr t (mh P w k) (c + (q + 1)))) Q E s := by
        unfold searchRest
        rw [R.entry hp]
        dsimp only
        refine wpAny_bind (wpAny_holding (wpAny_eqBool_tuple hu hpt hx ?_))
        refine wpAny_bind (wpAny_setState_of ho hd R.fits ?_)
        dsimp only
        by_cases hkk : p.2 = k
        · refine wp_if_pos (by simp [hkk]) ?_
          exact wpAny_pure (hin (List.mem_map.mpr ⟨p, hmem, hkk⟩))
        · refine wp_if_neg (by simp [hkk]) ?_
          try refine wpAny_bind (wpAny_pure ?_)
          rw [sameMem]
          dsimp only
          have hsl : t.slot (way t.mask (mh P w k) (c + q)) = .live i := slot_live R.tab.ris hi
          simp only [if_true, hsl, R.entry hp]
          refine wpAny_bind (wpAny_isSame_ref_self (wpAny_bind (wpAny_pure ?_)))
          simp only [if_true]
          refine wp_if_neg (by simp [hkk]) ?_
          refine m_search R hx hu hKf hK hKb hin hout f (c + (q + 1)) _ rfl (by omega) (by omega) fun i0 p0 h0 hk0 => ?_
          obtain ⟨c', a1, a2, a3⟩ := hre i0 p0 h0 hk0
          refine ⟨c', ?_, a2, a3⟩
          rcases Nat.lt_or_ge c' (c + q) with z | z
          · exfalso
            refine hno (c' - c) i0 (by omega) (by rw [e1, show c + (c' - c) = c' by omega]; exact a3) ?_
            exact (hashAt i0 p0 h0).trans (congrArg (mh P w) hk0)
          · rcases Nat.lt_or_ge (c + q) c' with y | y
            · omega
            · exfalso
              have ec : c' = c + q := Nat.le_antisymm y z
              rw [ec] at a3
              have s0 := slot_live R.tab.ris a3
              rw [hsl] at s0
              injection s0 with s0
              rw [← s0, hp] at h0
              exact hkk ((congrArg Prod.snd (Option.some.inj h0)).trans hk0)
      by_cases hl : t.led = true
      · refine wp_if_neg (by simp [hl]) ?_
        try refine wpAny_bind (wpAny_pure ?_)
        exact rest
      · refine wp_if_pos (by simp [hl]) ?_
        refine wpAny_bind (m_seen hx (fun y hy => ?_) ?_)
        · obtain ⟨e, he, ee⟩ := List.mem_map.mp hy
          have he1 : e ∈ es ∧ e.1 = mh P w k := by simpa using he
          have he2 : e ∈ es.toList := by simpa using he1.1
          rw [R.rows] at he2
          obtain ⟨p2, hp2, e2⟩ := List.mem_map.mp he2
          refine ⟨p2.2, p2.1, ?_, R.tup p2 hp2⟩
          rw [← ee, ← e2]
        · refine wp_if_neg (by decide) ?_
          try refine wpAny_bind (wpAny_pure ?_)
          exact rest
    · have hpr' : t.probe (fun i => (es[i]?.map (·.1)).getD 0) (mh P w k) (stand.getD (t.probeStart (mh P w k))) = some (.empty (way t.mask (mh P w k) K) none) := by
        have e2 : way t.mask (mh P w k) K = (nth t.mask (pr t (mh P w k) c) (K - c)).j := by
          rw [e1, show c + (K - c) = K by omega]
        rw [hst, e2]
        exact hpr
      rw [hpr']
      dsimp only
      refine wpAny_pure (hout fun hm => ?_)
      obtain ⟨p0, h0, hk0⟩ := List.mem_map.mp hm
      obtain ⟨i0, hi0, e0⟩ := List.getElem_of_mem h0
      have h00 : L[i0]? = some p0 := by rw [List.getElem?_eq_getElem hi0, e0]
      obtain ⟨c', a1, a2, a3⟩ := hre i0 p0 h00 hk0
      refine hno (c' - c) i0 (by omega) (by rw [e1, show c + (c' - c) = c' by omega]; exact a3) ?_
      exact (hashAt i0 p0 h00).trans (congrArg (mh P w) hk0)
theorem m_find (R : MT P w s.heap a L es ep t) {x : Addr} {k : List Key} (hx : IsM P w s.heap k x) (hu : A.units < cLine) {Q : SetFound → Shared → Prop}
    (hin : k ∈ L.map (·.2) → Q (.there none) s)
    (hout : ∀ K, k ∉ L.map (·.2) → way t.mask (mh P w k) K ∉ t.place.toList → (∀ c, c < K → way t.mask (mh P w k) c ∈ t.place.toList) → Q (.free (way t.mask (mh P w k) K) false) s) :
    wpAny (model P w) A (setSearch a (.ref x) (mh P w k) true) Q E s := by
  obtain ⟨K, hKf, hK, hKb⟩ := R.tab.first (by rw [List.length_map, R.m7]; have := R.few; omega) (mh P w k)
  have hbig : K < 100000 := by
    have : 10 * SetTable.turns t.mask ≤ 1420 := by
      unfold SetTable.turns
      rw [R.m7]; omega
    omega
  unfold setSearch
  refine m_search R hx hu hKf hK hKb hin (fun hn => hout K hn hK hKb) 100000 0 none rfl (Nat.zero_le _) (by omega) fun i p hp hk => ?_
  have hi : (L.map fun p => mh P w p.2)[i]? = some (mh P w k) := by rw [List.getElem?_map, hp, ← hk]; rfl
  have hil : i < t.place.toList.length := by
    have h1 : i < L.length := (List.getElem?_eq_some_iff.mp hp).1
    have h2 := R.tab.sz
    rw [List.length_map] at h2
    rw [Array.length_toList]
    omega
  have hj := List.getElem?_eq_getElem hil
  obtain ⟨c, hc, e⟩ := R.tab.before hK hi hj
  exact ⟨c, Nat.zero_le _, hc, by rw [hj, e]⟩
theorem m_same {h h' : Heap} {k : List Key} {a b : Addr} {o : Obj} {es : Array (Int × Value)} {ep : Nat} {t : SetTable} (hb : IsM P w h k b) (ho : h.get? a = some o) (hd : o.data = .set es ep t) (hs : Heap.SameBut a h h') : IsM P w h' k b := by
  obtain ⟨o', items, n, ho', hc, hd', hi⟩ := hb
  have hne : b ≠ a := by
    rintro rfl
    obtain rfl : o' = o := Option.some.inj (ho'.symm.trans ho)
    rw [hd] at hd'
    exact nomatch hd'
  exact ⟨o', items, n, (hs.2 b hne).trans ho', hc, hd', hi⟩
theorem tab_plain {t : SetTable} {hs : List Int} (T : TabOk t hs) (b : Bool) : TabOk { t with plain := b } hs := ⟨T.ris, T.dm, T.sz, T.mok, T.bd, T.reach⟩
/-- one tuple is added -/
theorem m_add (R : MT P w s.heap a L es ep t) {x : Addr} {k : List Key} (hx : IsM P w s.heap k x) (hu : A.units < cLine) (hfew : L.length ≤ 2) {Q : Bool → Shared → Prop}
    (hQ : ∀ b h' L' es' ep' t', Heap.SameBut a s.heap h' → MT P w h' a L' es' ep' t' → (k ∈ L.map (·.2) → L' = L) → (k ∉ L.map (·.2) → L'.Perm ((x, k) :: L)) → Q b { s with heap := h' }) :
    wpAny (model P w) A (setAddHashed a (.ref x) (mh P w k)) Q E s := by
  obtain ⟨o, ho, hex, hd⟩ := R.ob
  have hsl := R.size
  unfold setAddHashed
  refine wpAny_holding ?_
  rw [show (100000 : Nat) = 99999 + 1 from rfl, setAddHashedIn_succ]
  refine wpAny_bind (wpAny_setState_of ho hd R.fits ?_)
  dsimp only
  refine wp_if_neg (by simp [byScan, Value.scannable]) ?_
  try refine wpAny_bind (wpAny_pure ?_)
  refine wpAny_bind (m_find R hx hu (fun hm => ?_) fun K hm hK hb => ?_)
  · dsimp only
    exact wpAny_pure (hQ false s.heap L es ep t (Heap.SameBut.refl a s.heap) R (fun _ => rfl) fun z => absurd hm z)
  · dsimp only
    refine wpAny_bind (wpAny_setState_of ho hd R.fits ?_)
    dsimp only
    obtain ⟨q1, q2, q3, q4, q5, q6, q7, q8, q9⟩ := R.tab.put hK hb
    generalize hpt : t.put (way t.mask (mh P w k) K) = pt at q1 q3 q4 q5 q6 q7 q8 q9 ⊢
    obtain ⟨t1, p⟩ := pt
    dsimp only at q1 q3 q4 q5 q6 q7 q8 q9 ⊢
    subst q1
    have hin : (SetTable.insertAt es (SetTable.below t.place (way t.mask (mh P w k) K)) (mh P w k, Value.ref x)).toList = (L.take (SetTable.below t.place (way t.mask (mh P w k) K)) ++ (x, k) :: L.drop (SetTable.below t.place (way t.mask (mh P w k) K))).map fun p => (mh P w p.2, Value.ref p.1) := by
      rw [SetTable.toList_insertAt, R.rows, List.map_append, List.map_cons, List.map_take, List.map_drop]
    generalize hpp : SetTable.below t.place (way t.mask (mh P w k) K) = p at q2 q3 hin ⊢
    have pm := put_perm L p (x, k)
    have hlen : (L.take p ++ (x, k) :: L.drop p).length = L.length + 1 := pm.length_eq
    have hhs : (L.take p ++ (x, k) :: L.drop p).map (fun p => mh P w p.2) = (L.map fun p => mh P w p.2).take p ++ mh P w k :: (L.map fun p => mh P w p.2).drop p := by
      rw [List.map_append, List.map_cons, List.map_take, List.map_drop]
    rw [← hhs] at q3
    have nd1 : ((L.take p ++ (x, k) :: L.drop p).map (·.2)).Nodup := by
      refine (pm.map (·.2)).nodup_iff.mpr ?_
      rw [List.map_cons]
      exact List.nodup_cons.mpr ⟨hm, R.nd⟩
    have hes : (SetTable.insertAt es p (mh P w k, Value.ref x)).size = L.length + 1 := by
      have h := congrArg List.length hin
      rw [Array.length_toList, List.length_map, hlen] at h
      exact h
    generalize SetTable.insertAt es p (mh P w k, Value.ref x) = es1 at hin hes ⊢
    generalize L.take p ++ (x, k) :: L.drop p = L1 at pm hlen q3 nd1 hin
    -- what is left, whatever the mark says
    have done : ∀ t2 : SetTable, TabOk t2 (L1.map fun p => mh P w p.2) → t2.mask = 7 → ¬ t2.tooFull = true →
        wpAny (model P w) A (do
          storeSet a es1 t2
          if !false && t2.tooFull then setRelay a (SetTable.grown (es.size + 1))
          return true) Q E s := by
      intro t2 T2 m2 nf
      refine wpAny_bind (wpAny_storeSet_of ho hd ?_ (by rw [hes, sizeLine_eq]; omega))
      have sb : Heap.SameBut a s.heap (s.heap.update a (Obj.putSet es1 t2)) := Heap.SameBut.update ..
      have ho1 := store_at (es' := es1) (t' := t2) ho hd
      generalize s.heap.update a (Obj.putSet es1 t2) = h1 at sb ho1 ⊢
      have tup1 : ∀ p ∈ L1, IsM P w h1 p.2 p.1 := fun p hp => by
        rcases List.mem_cons.mp (pm.mem_iff.mp hp) with e | hp
        · rw [e]; exact m_same hx ho hd sb
        · exact m_same (R.tup p hp) ho hd sb
      first
        | refine wp_if_neg (by simp [nf]) ?_
        | (refine wpAny_bind ?_; refine wp_if_neg (by simp [nf]) ?_; refine wpAny_pure ?_)
      exact wpAny_pure (hQ true h1 L1 es1 (ep + 1) t2 sb ⟨⟨_, ho1, ⟨hex.1, hex.2.1, hex.2.2⟩, rfl⟩, hin, T2, nd1, tup1, m2, by rw [hlen]; omega⟩ (fun z => absurd z hm) fun _ => pm)
    have m7 : t1.mask = 7 := by rw [q4]; exact R.m7
    have nf : ¬ t1.tooFull = true := by
      unfold SetTable.tooFull
      rw [decide_eq_true_eq, q9, List.length_map, m7]
      omega
    by_cases hp1 : t1.plain = true
    · first
        | (refine wpAny_bind ?_; refine wp_if_pos hp1 ?_; refine m_byval hx fun r => ?_)
        | refine wp_if_pos hp1 (wpAny_bind (m_byval hx fun r => ?_))
      cases r with
      | true => exact done t1 q3 m7 nf
      | false => exact done { t1 with plain := false } (tab_plain q3 _) m7 nf
    · first
        | (refine wpAny_bind ?_; refine wp_if_neg hp1 ?_; refine wpAny_pure ?_)
        | refine wp_if_neg hp1 (wpAny_bind (wpAny_pure ?_))
      exact done t1 q3 m7 nf
end
def uniqG {α : Type} [DecidableEq α] (ks : List α) : List α := ks.foldl (fun us k => if k ∈ us then us else us ++ [k]) []
theorem uniqG_snoc {α : Type} [DecidableEq α] (ks : List α) (k : α) : uniqG (ks ++ [k]) = if k ∈ uniqG ks then uniqG ks else uniqG ks ++ [k] := by
  unfold uniqG
  rw [List.foldl_append]
  rfl
theorem uniqG_nodup {α : Type} [DecidableEq α] {ks : List α} (h : ks.Nodup) : uniqG ks = ks := by
  have key : ∀ (ks us : List α), (us ++ ks).Nodup → ks.foldl (fun us k => if k ∈ us then us else us ++ [k]) us = us ++ ks := by
    intro ks
    induction ks with
    | nil => intro us _; simp
    | cons k ks ih =>
      intro us h
      have hn : k ∉ us := fun z => (List.nodup_append.mp h).2.2 k z k (by simp) rfl
      rw [List.foldl_cons, if_neg hn, ih _ (by rw [List.append_assoc]; exact h), List.append_assoc]; rfl
  have := key ks [] (by simpa using h)
  rw [List.nil_append] at this
  exact this
theorem uniqG_len {α : Type} [DecidableEq α] (ks : List α) : (uniqG ks).length ≤ ks.length := by
  have key : ∀ (ks us : List α), (ks.foldl (fun us k => if k ∈ us then us else us ++ [k]) us).length ≤ us.length + ks.length := by
    intro ks
    induction ks with
    | nil => intro us; exact Nat.le_refl _
    | cons k ks ih =>
      intro us
      rw [List.foldl_cons, List.length_cons]
      have h1 := ih (if k ∈ us then us else us ++ [k])
      have e2 : (if k ∈ us then us else us ++ [k]).length ≤ us.length + 1 := by split <;> simp
      omega
  have := key ks []
  rw [List.length_nil, Nat.zero_add] at this
  exact this
section
variable {P : Program} {w : World} {A : Around} {E : Value → Shared → Prop} {s : Shared}
theorem set_tups {l : Addr} {ps : List (Addr × List Key)} {Q : Value → Shared → Prop} (calm : A.handled = none) (hu : A.units + 3 < cLine) (hl : s.heap.IsList l (ps.map fun p => Value.ref p.1).toArray) (tp : ∀ p ∈ ps, IsM P w s.heap p.2 p.1) (few : ps.length ≤ 3)
    (go : ∀ (h' : Heap) (tk : Nat), (∃ L es ep t, MT P w h' s.heap.objs.size L es ep t ∧ L.length = (uniqG (ps.map (·.2))).length) → (∀ b o, b < s.heap.objs.size → s.heap.get? b = some o → h'.get? b = some o) → Q (.ref s.heap.objs.size) { s with heap := h', toks := tk }) :
    wpAny (model P w) A (call (.type "set") [.ref l]) Q E s := by
  have low : ∀ p ∈ ps, p.1 < s.heap.objs.size := fun p hp => by
    obtain ⟨o, _, _, ho, _⟩ := tp p hp
    exact Heap.lt_size ho
  refine set_by calm hl (fun i h => (∀ p ∈ ps, IsM P w h p.2 p.1) ∧ ∃ L es ep t, MT P w h s.heap.objs.size L es ep t ∧ (∀ p ∈ L, p ∈ ps) ∧ (L.map (·.2)).Perm (uniqG ((ps.map (·.2)).take i))) (fun led h eL at0 k => ?_) (fun i h h' hK k => ?_) (fun i v t Q E hv hK q => ?_) fun h' tk hK k => ?_
  · refine ⟨fun p hp => ?_, [], #[], 0, _, ⟨⟨_, at0, ⟨rfl, rfl, rfl⟩, rfl⟩, rfl, ⟨List.Pairwise.nil, rfl, rfl, .inl rfl, fun x hx => (by cases hx), fun i h j hi => (by simp at hi)⟩, List.nodup_nil, fun p hp => (by cases hp), rfl, by simp⟩, fun p hp => (by cases hp), by simp [uniqG]⟩
    obtain ⟨o, items, n, ho, r⟩ := tp p hp
    exact ⟨o, items, n, k _ _ ho, r⟩
  · obtain ⟨h1, L, es, ep, t, R, sub, pm⟩ := hK
    have keepT : ∀ p ∈ ps, IsM P w h' p.2 p.1 := fun p hp => by
      obtain ⟨o, items, n, ho, r⟩ := h1 p hp
      have := low p hp
      exact ⟨o, items, n, k _ _ (Nat.ne_of_lt (Nat.lt_succ_of_lt this)) ho, r⟩
    obtain ⟨o, ho, r⟩ := R.ob
    exact ⟨keepT, L, es, ep, t, ⟨⟨o, k _ _ (Nat.ne_of_lt (Nat.lt_succ_self _)) ho, r⟩, R.rows, R.tab, R.nd, fun p hp => keepT p (sub p hp), R.m7, R.few⟩, sub, pm⟩
  · obtain ⟨h1, L, es, ep, tb, R, sub, pm⟩ := hK
    rw [List.getElem?_map] at hv
    obtain ⟨p, hp, ev⟩ := Option.map_eq_some_iff.mp hv
    subst ev
    have hmem : p ∈ ps := List.mem_of_getElem? hp
    have hi : i < ps.length := (List.getElem?_eq_some_iff.mp hp).1
    have lenL : L.length ≤ 2 := by
      have e1 := pm.length_eq
      rw [List.length_map] at e1
      have e2 := uniqG_len ((ps.map (·.2)).take i)
      rw [List.length_take, List.length_map] at e2
      omega
    have tk1 : (ps.map (·.2)).take (i + 1) = (ps.map (·.2)).take i ++ [p.2] := by rw [List.take_add_one, List.getElem?_map, hp]; rfl
    unfold setAdd
    refine wpAny_holding (wpAny_bind (wpAny_pyHash_tuple (by show A.units + 1 + 1 + 1 < cLine; omega) (h1 p hmem) ?_))
    have R' : MT P w ({ t with toks := t.toks + (p.2.length + 1) } : Shared).heap s.heap.objs.size L es ep tb := R
    refine m_add R' (x := p.1) (k := p.2) (h1 p hmem) (by show A.units + 1 + 1 + 1 < cLine; omega) lenL fun b h' L' es' ep' t' sb R2 same new => ?_
    have keepT : ∀ p ∈ ps, IsM P w h' p.2 p.1 := fun p hp => by
      obtain ⟨o, ho, _, hd⟩ := R.ob
      exact m_same (h1 p hp) ho hd sb
    refine q _ h' _ (Nat.le_add_right _ _) sb ⟨keepT, L', es', ep', t', R2, ?_, ?_⟩
    · by_cases hm : p.2 ∈ L.map (·.2)
      · rw [same hm]; exact sub
      · intro z hz
        rcases List.mem_cons.mp ((new hm).mem_iff.mp hz) with e | e
        · rw [e]; exact hmem
        · exact sub z e
    · rw [tk1, uniqG_snoc]
      by_cases hm : p.2 ∈ L.map (·.2)
      · rw [same hm, if_pos (pm.mem_iff.mp hm)]
        exact pm
      · rw [if_neg fun z => hm (pm.mem_iff.mpr z)]
        refine ((new hm).map (·.2)).trans ?_
        rw [List.map_cons]
        exact (List.Perm.cons _ pm).trans (List.perm_append_singleton _ _).symm
  · obtain ⟨h1, L, es, ep, tb, R, sub, pm⟩ := hK
    refine go h' tk ⟨L, es, ep, tb, R, ?_⟩ k
    have e := pm.length_eq
    rw [List.length_map] at e
    rw [e, List.take_of_length_le (by simp)]
end
theorem keyT_of {X : Cx} {pins : List (Addr × Obj)} {σ : L2.St} {H : Hp} {s : Shared} (I : Inv X pins σ H s) {ks : List Key} {b : Addr} (h : SqT X.K H b (ks.map kV)) : (tupleKind (mixKind X.prog X.w)).is s.heap ks b := by
  obtain ⟨its, r, ⟨o, h1, h2, n, h4⟩, _⟩ := I.tuple h
  exact ⟨o, its.toArray, n, h1, h2, h4, by simpa using items_are r⟩
/-- len(set(xs)), xs a list of at most three tuples -/
def tLenT (K : PySem.W.Frag) (ta : TE) : TE := fun σ H Q => ta σ H fun x H1 => ∃ (l : Addr) (ps : List (Addr × List Key)), x = .ref l ∧ SqL K H1 l (ps.map fun p => V.ref p.1) ∧ (∀ p ∈ ps, SqT K H1 p.1 (p.2.map kV)) ∧ ps.length ≤ 3 ∧ Q (.int ((uniqG (ps.map (·.2))).length : Nat)) H1
theorem pe_lenT {X : Cx} {a : Expr} {ta : TE} {p p2 q pos : Pos} (calm : X.calm = true) (hu : X.A.units + 3 < cLine) (gl : Gl X "len") (ml : X.mg "len" = none) (gs : Gl X "set") (ms : X.mg "set" = none) (ha : PE X a ta)
    (na : starEach [a] X.env = (false, eval a X.env) :: starEach [] X.env) : PE X (.Call (.Name "len" p) [.Call (.Name "set" p2) [a] [] q] [] pos) (tLenT X.K ta) := by
  refine ⟨fun pins s σ H Q I h => Call_ (ld_blt I gl ml boot_len (PyProof.Rows.callWith_builtin1 (PyProof.Rows.args_cons (Call_ (ld_blt I gs ms boot_set ?_)) rfl) rfl rfl))⟩
  refine PyProof.Rows.callWith_type1 (PyProof.Rows.args_cons (thn (ha.run pins s σ H _ I h) fun v s1 ⟨x, H1, I1, r1, l, ps, e, hq, ht, few, q1⟩ => PyProof.Rows.args_nil ?_) na) na rfl
  subst e
  cases r1
  obtain ⟨its, r, pl, _⟩ := I1.list hq
  have ei : its = ps.map fun p => Value.ref p.1 := by
    have := L2.refs_at (ps := ps.map (·.1)) (us := its) (by rw [List.map_map]; exact r)
    rw [this, List.map_map]; rfl
  subst ei
  refine set_tups (ps := ps) (I1.ok.hd calm) hu pl.isList (fun p hp => keyT_of I1 (ht p hp)) few fun h' tk ⟨L, es, ep, t, R, eL⟩ hk => PyProof.Rows.args_nil ?_
  have I2 : Inv X pins σ H1 { s1 with heap := h', toks := tk } := I1.kept fun b o e => hk b o (Heap.lt_size e) e
  have R' : MT X.prog X.w ({ s1 with heap := h', toks := tk } : Shared).heap s1.heap.objs.size L es ep t := R
  obtain ⟨o, ho, hex, hd⟩ := R'.ob
  have hf := R'.fits
  have hn := R'.size
  have f3 := R.few
  exact call_len_set ho hex hd hf (by omega) ⟨.int _, H1, I2.tok _, ⟨_, by rw [hn, eL]⟩, q1⟩
end FL

set_option maxRecDepth 100000
set_option maxHeartbeats 4000000
/-! sorted(..) of nested tuples that begin with texts (trees). -/
namespace FL
open PySem PySem.Spec PyProof.Rows L2
def tupS : D → Bool
  | .tup (.str _ :: _) => true
  | _ => false
def treesD (ds : List D) : Bool := (ds.all fun d => ds.all fun e => TO.cmpOk (toPy d) (toPy e)) && ds.all tupS && ds.all fun d => decide ((toPy d).depth ≤ 64)
mutual
theorem nd_of_cmp : ∀ d : D, TO.cmpOk (toPy d) (toPy d) = true → nd d = true
  | .non, _ => rfl
  | .bl _, _ => rfl
  | .int _, _ => rfl
  | .str _, _ => rfl
  | .tup ds, h => by
    have := nds_of_cmp ds (by simpa [toPy, TO.cmpOk] using h)
    simpa [nd] using this
  | .lst ds, h => by simp [toPy, TO.cmpOk] at h
  | .dic _, h => by simp [toPy, TO.cmpOk] at h
  | .exc _, h => by simp [toPy, TO.cmpOk] at h
theorem nds_of_cmp : ∀ ds : List D, TO.cmpAll (toPys ds) (toPys ds) = true → nds ds = true
  | [], _ => rfl
  | d :: ds, h => by
    have h' := TO.cmp_cons (by simpa [toPys] using h)
    have n := nd_of_cmp d h'.1
    simp only [nds, n, nds_of_cmp ds (h'.2 (PySem.SeqAt.eqv_refl_plain _ (toPy_plain d n))), Bool.and_self]
end
section
variable {X : Cx}
theorem call_tsorted {pins : List (Addr × Obj)} {s : Shared} {σ : L2.St} {H : Hp} {a : Addr} {xs : List V} {ds : List D} {O : Addr → Prop} {Q : VK} (hu : X.A.units + 70 < cLine) (I : Inv X pins σ H s) (hs : SqL X.K H a xs) (rr : Rps X.K H O xs ds)
    (hk : treesD ds = true) (q : ∀ p xs', H p = none → Rps X.K H O xs' (sortD ds) → Q (.ref p) (upd H p (.lst xs'))) : wpAny (model X.prog X.w) X.A (call (.builtin "sorted") [.ref a]) (EP X pins σ Q) X.xe s := by
  obtain ⟨its, rv, hl, hz⟩ := I.list hs
  obtain ⟨zs, e1, e2, e3, al⟩ := triples rr rv
  unfold treesD at hk
  simp only [Bool.and_eq_true] at hk
  obtain ⟨⟨k1, k2⟩, k3⟩ := hk
  have hal : TO.AllCmp (ds.map toPy) := fun d hd d' hd' => by
    obtain ⟨x, hx, rfl⟩ := List.mem_map.mp hd
    obtain ⟨y, hy, rfl⟩ := List.mem_map.mp hd'
    exact List.all_eq_true.mp (List.all_eq_true.mp k1 x hx) y hy
  have hpl : ∀ d ∈ ds.map toPy, d.plain = true := fun d hd => by
    obtain ⟨x, hx, rfl⟩ := List.mem_map.mp hd
    exact toPy_plain x (nd_of_cmp x (List.all_eq_true.mp (List.all_eq_true.mp k1 x hx) x hx))
  have hso : ∀ d, d ∈ ds.map toPy → ∃ x r, d = .tuple (.str x :: r) := fun d hd => by
    obtain ⟨x, hx, rfl⟩ := List.mem_map.mp hd
    have := List.all_eq_true.mp k2 x hx
    unfold tupS at this
    split at this
    · rename_i z es
      exact ⟨z, toPys es, by simp only [toPy, toPys]⟩
    · cases this
  have hdp : ∀ d, d ∈ ds.map toPy → X.A.in1.in1.units + d.depth < cLine := fun d hd => by
    obtain ⟨x, hx, rfl⟩ := List.mem_map.mp hd
    have := List.all_eq_true.mp k3 x hx
    simp only [decide_eq_true_eq] at this
    have e : X.A.in1.in1.units = X.A.units + 1 + 1 := rfl
    omega
  have rd : ∀ z ∈ zs, ∃ as, Reads (PySem.W.sortingHeap (PySem.W.copyHeap s.heap its) (s.heap.objs.size + 1) its) z.1 (toPy z.2.2) as := fun z hz => by
    obtain ⟨h1, h2⟩ := al z hz
    have hm : z.2.2 ∈ ds := by rw [← e3]; exact List.mem_map_of_mem (f := fun z : Value × V × D => z.2.2) hz
    obtain ⟨as, h3⟩ := Dp.reads I _ _ _ (h2.dp (nd_of_cmp _ (List.all_eq_true.mp (List.all_eq_true.mp k1 _ hm) _ hm))) h1
    exact ⟨as, PyProof.Rows.Reads.keeps (fun b o e => PySem.W.sorting_copy_old e) h3⟩
  have mem : ∀ z ∈ zs, toPy z.2.2 ∈ ds.map toPy := fun z hz => List.mem_map_of_mem (by rw [← e3]; exact List.mem_map_of_mem (f := fun z : Value × V × D => z.2.2) hz)
  have each := each_map (R := fun v d => ∃ as, Reads (PySem.W.sortingHeap (PySem.W.copyHeap s.heap its) (s.heap.objs.size + 1) its) v d as) rd
  rw [e1, e3] at each
  have S := TO.sorts (prog := X.prog) (w := X.w) (A := X.A.in1.in1) (s := { s with heap := PySem.W.sortingHeap (PySem.W.copyHeap s.heap its) (s.heap.objs.size + 1) its }) each hal hpl hso hdp
  refine PySem.W.sorted_vals hl.isList S (by rw [← rv.length]; exact hz) ?_
  have es : PySem.W.sortVals (PySem.W.dataKind (PySem.W.sortingHeap (PySem.W.copyHeap s.heap its) (s.heap.objs.size + 1) its) (ds.map toPy)) false its its = (zs.mergeSort fun z w => leD z.2.2 w.2.2).map (·.1) := by
    unfold PySem.W.sortVals
    have ez : its.zip its = zs.map fun z => (z.1, z.1) := by rw [← e1, List.zip_map']
    rw [ez, ← PySem.W.sort_maps (r := fun z w => leD z.2.2 w.2.2) (fun z : Value × V × D => ((z.1, z.1) : Keyed)) (fun z hz w hw => ?_), List.map_map]
    · rfl
    · obtain ⟨as, h1⟩ := rd z hz
      obtain ⟨bs, h2⟩ := rd w hw
      have g1 := PySem.W.keyD_some (TO.kind_some hal hpl (mem z hz) h1)
      have g2 := PySem.W.keyD_some (TO.kind_some hal hpl (mem w hw) h2)
      unfold PySem.W.sortLe
      dsimp only
      rw [g1, g2]
      rfl
  have ed : (zs.mergeSort fun z w => leD z.2.2 w.2.2).map (·.2.2) = sortD ds := by
    unfold sortD
    rw [PySem.W.sort_maps (s := leD) (fun z : Value × V × D => z.2.2) (fun _ _ _ _ => rfl), e3]
  have ms : ∀ z ∈ zs.mergeSort fun z w => leD z.2.2 w.2.2, z ∈ zs := fun z hz => (List.mergeSort_perm _ _).mem_iff.mp hz
  rw [es]
  generalize zs.mergeSort (fun z w => leD z.2.2 w.2.2) = out at ed ms
  have vo := vals_map (zs := out) fun z hz => (al z (ms z hz)).1
  have ro := rps_map (zs := out) fun z hz => (al z (ms z hz)).2
  rw [ed] at ro
  obtain ⟨ep, he'⟩ := PyProof.Rows.sortedAll_at s.heap its (out.map (·.1)).toArray
  have hlen : (out.map (·.2.1)).length ≤ sizeLine := by
    have h1 : (out.map (·.2.1)).length = (sortD ds).length := by rw [← ed, List.length_map, List.length_map]
    rw [h1]
    unfold sortD
    rw [List.length_mergeSort, ← rr.length]
    exact hz
  exact ⟨.ref _, upd H (s.heap.objs.size + 1) (.lst (out.map (·.2.1))), I.laid (t' := s.toks) (fun _ _ => PyProof.Rows.sortedAll_old) (Nat.le_succ _) ⟨hlen, out.map (·.1), ep, vo, he'⟩, rfl, q _ _ (I.hok.fresh (Nat.le_succ _)) ro⟩
def tTSort (K : PySem.W.Frag) (ta : TE) : TE := fun σ H Q => ta σ H fun x H1 => ∃ l xs ds O, x = .ref l ∧ SqL K H1 l xs ∧ Rps K H1 O xs ds ∧ treesD ds = true ∧ ∀ p xs', H1 p = none → Rps K H1 O xs' (sortD ds) → Q (.ref p) (upd H1 p (.lst xs'))
theorem pe_tsort {a : Expr} {ta : TE} {p pos : Pos} (hu : X.A.units + 70 < cLine) (gl : Gl X "sorted") (ml : X.mg "sorted" = none) (ha : PE X a ta)
    (na : starEach [a] X.env = (false, eval a X.env) :: starEach [] X.env) : PE X (.Call (.Name "sorted" p) [a] [] pos) (tTSort X.K ta) := by
  refine ⟨fun pins s σ H Q I h => Call_ (ld_blt I gl ml (show bootBuiltins ("sorted" : Str) = some (.builtin "sorted") by decide +kernel) (PyProof.Rows.callWith_builtin1 (PyProof.Rows.args_cons (thn (ha.run pins s σ H _ I h) fun v s1 ⟨x, H1, I1, r1, l, xs, ds, O, e, hq, rr, hk, q1⟩ => PyProof.Rows.args_nil ?_) na) na rfl))⟩
  subst e
  cases r1
  exact call_tsorted hu I1 hq rr hk q1
end
end FL

set_option maxRecDepth 100000
set_option maxHeartbeats 4000000
/-! Calls as evaluated. -/
namespace FL
open PySem PySem.Spec PyProof.Rows L2

def permV (perm : List Nat) (vs : List V) : List V := perm.map fun i => vs.getD i .non
def permA (perm : List Nat) (xs : List Arg) : List Arg := perm.map fun i => xs.getD i (.tmp (.val .non))
def calR (F : List Sv → CR) (xs : List Arg) (S1 : FS) : R Arg := if (refsOf xs).Nodup then match lendA S1 xs with
    | some ss => match F ss with
      | .ok r outs => .ok (.tmp r) (back S1 xs outs)
      | .ex k outs => .ex k (back S1 xs outs)
      | .no => .no
    | none => .no
  else .no
def rCall (F : List Sv → CR) (perm : List Nat) (np nk : Nat) (fs gs : FA) : FE := fun S => (fs S).bind fun xs S1 => if xs.length = np then (gs S1).bind fun zs S2 => if zs.length = nk then calR F (permA perm (xs ++ zs)) S2 else .no else .no

theorem tmpAs_nil : ∀ (vs : List V), tmpAs vs [] = []
  | [] => rfl
  | _ :: _ => rfl
theorem tmpAs_flat : ∀ {vs : List V} {xs : List Arg}, vs.length = xs.length → tmpAs vs xs = (List.range xs.length).flatMap fun i => tmpA (vs.getD i .non) (xs.getD i (.tmp (.val .non)))
  | [], [], _ => rfl
  | v :: vs, x :: xs, h => by
    have ih := tmpAs_flat (vs := vs) (xs := xs) (by simpa using h)
    rw [List.length_cons, List.range_succ_eq_map, List.flatMap_cons, List.flatMap_map]
    show tmpA v x ++ tmpAs vs xs = _
    rw [ih]
    rfl
theorem tmpAs_perm : ∀ (perm : List Nat) (vs : List V) (xs : List Arg), tmpAs (permV perm vs) (permA perm xs) = perm.flatMap fun i => tmpA (vs.getD i .non) (xs.getD i (.tmp (.val .non)))
  | [], _, _ => rfl
  | i :: perm, vs, xs => by
    rw [List.flatMap_cons, ← tmpAs_perm perm vs xs]
    rfl
theorem tmpAs_app : ∀ {vs us : List V} {xs ys : List Arg}, vs.length = xs.length → tmpAs (vs ++ us) (xs ++ ys) = tmpAs vs xs ++ tmpAs us ys
  | [], us, [], ys, _ => rfl
  | v :: vs, us, x :: xs, ys, h => by
    show tmpA v x ++ tmpAs (vs ++ us) (xs ++ ys) = (tmpA v x ++ tmpAs vs xs) ++ tmpAs us ys
    rw [tmpAs_app (by simpa using h), List.append_assoc]
section
variable {c : FCx} {W : WX} {Z : Addr → Prop} {σ : Slots} {H H1 H2 : Hp} {S S1 S2 : FS} {vs us : List V} {xs ys : List Arg} {v : V} {r : Sv} {Q : VK}
theorem Gots.perm (g : Gots c Z σ H S H1 S1 vs xs) {perm : List Nat} (hp : perm.Perm (List.range xs.length)) : Gots c Z σ H S H1 S1 (permV perm vs) (permA perm xs) := by
  obtain ⟨l, k⟩ := ARs_at g.ar
  have pm : (tmpAs (permV perm vs) (permA perm xs)).Perm (tmpAs vs xs) := by
    rw [tmpAs_perm, tmpAs_flat l]
    exact hp.flatMap_right _
  have zz : ∀ a, Zt Z (tmpAs (permV perm vs) (permA perm xs)) a ↔ Zt Z (tmpAs vs xs) a := fun a => or_congr Iff.rfl pm.mem_iff
  have oo : ∀ a, OO σ S1 (Zt Z (tmpAs (permV perm vs) (permA perm xs))) a ↔ OO σ S1 (Zt Z (tmpAs vs xs)) a := fun a => or_congr Iff.rfl (zz a)
  have ez : Zt Z (tmpAs (permV perm vs) (permA perm xs)) = Zt Z (tmpAs vs xs) := funext fun a => propext (zz a)
  refine ⟨by rw [ez]; exact g.step, ?_, fun a ha => g.new a (pm.mem_iff.mp ha), pm.nodup_iff.mpr g.nd⟩
  rw [ez]
  have mem : ∀ i ∈ perm, i < xs.length := fun i hi => List.mem_range.mp (hp.mem_iff.mp hi)
  clear hp pm zz oo ez
  induction perm with
  | nil => exact .nil
  | cons i perm ih =>
    have hi := mem i List.mem_cons_self
    refine .cons ?_ (ih fun j hj => mem j (List.mem_cons_of_mem _ hj))
    show AR _ _ _ _ (vs.getD i .non) (xs.getD i (.tmp (.val .non)))
    refine k i _ _ ?_ ?_
    · rw [List.getD_eq_getElem?_getD, List.getElem?_eq_getElem (by omega)]; rfl
    · rw [List.getD_eq_getElem?_getD, List.getElem?_eq_getElem hi]; rfl
theorem ARs.app {O : Addr → Prop} : ∀ {vs us : List V} {xs ys : List Arg}, ARs c O σ H vs xs → ARs c O σ H us ys → ARs c O σ H (vs ++ us) (xs ++ ys)
  | _, _, _, _, .nil, h => h
  | _, _, _, _, .cons a r, h => .cons a (r.app h)
theorem ARs.lift {O O' : Addr → Prop} : ∀ {vs : List V} {xs : List Arg}, ARs c O σ H vs xs → (∀ v x, (∀ a ∈ tmpA v x, a ∈ tmpAs vs xs) → AR c O σ H v x → AR c O' σ H1 v x) → ARs c O' σ H1 vs xs
  | _, _, .nil, _ => .nil
  | _, _, .cons a r, f => .cons (f _ _ (fun _ h => List.mem_append_left _ h) a) (r.lift fun v x h => f v x fun a z => List.mem_append_right _ (h a z))
theorem Gots.app : ∀ {vs us : List V} {xs ys : List Arg} {Z : Addr → Prop} {H : Hp} {S : FS}, Fr c Z σ H S → Gots c Z σ H S H1 S1 vs xs → Gots c (Zt Z (tmpAs vs xs)) σ H1 S1 H2 S2 us ys → Gots c Z σ H S H2 S2 (vs ++ us) (xs ++ ys) := by
  intro vs us xs ys Z H S fr g k
  obtain ⟨l, _⟩ := ARs_at g.ar
  have e := tmpAs_app (us := us) (ys := ys) l
  have zz : Zt Z (tmpAs (vs ++ us) (xs ++ ys)) = Zt (Zt Z (tmpAs vs xs)) (tmpAs us ys) := by
    funext a
    rw [e]
    show (Z a ∨ a ∈ tmpAs vs xs ++ tmpAs us ys) = ((Z a ∨ a ∈ tmpAs vs xs) ∨ a ∈ tmpAs us ys)
    rw [List.mem_append, or_assoc]
  refine ⟨?_, ?_, fun a ha => ?_, ?_⟩
  · rw [zz]
    exact (g.step.trans k.step).sub fun a z => z
  · rw [zz]
    refine ARs.app ?_ k.ar
    refine g.ar.lift fun v x hm a => a.mono k.step.kO (k.step.gO fun a z => z.elim .inl fun q => .inr (k.new a q)) fun a ha o e => k.step.keep a o e fun z => (g.step.fr.own a z).2 (.inr (hm a ha))
  · rw [e] at ha
    rcases List.mem_append.mp ha with h | h
    · exact g.new a h
    · exact g.step.non (k.new a h)
  · rw [e]
    refine List.nodup_append.mpr ⟨g.nd, k.nd, fun a h1 b h2 e => ?_⟩
    subst e
    exact g.step.fr.ztr a (.inr h1) (k.new a h2)
theorem calR_post {F : List Sv → CR} {np : Nat} {cls : Nat → Addr} (hcl : c.cls = cls) (fr : Fr c Z σ H S) (g : Gots c Z σ H S H1 S1 vs xs) (hn : vs.length = np) (h : PostE c W Z σ H S (calR F xs S1) Q) : spF c.K cls np F vs H1 Q fun cl d H' => W cl d σ H' := by
  unfold calR at h
  split at h
  · rename_i nd
    split at h
    · rename_i ss hl
      refine ⟨hn, Zc σ S1 Z vs xs ss, ss, args_ok fr g nd hl, ?_⟩
      cases q : F ss with
      | ok r outs =>
        rw [q] at h
        exact fun v H' P => h v H' (call_got fr g nd hl P)
      | ex k outs =>
        rw [q] at h
        subst hcl
        exact fun H' P => h H' ((call_got fr g nd hl P).step.sub zl)
      | no => rw [q] at h; exact h.elim
    · exact h.elim
  · exact h.elim
theorem sd_call_go {F : List Sv → CR} {np nk n : Nat} {perm : List Nat} {fs gs : FA} {cls : Nat → Addr} (hcl : c.cls = cls) (hp : perm.Perm (List.range (np + nk))) (hn : perm.length = n) (h : tE c W (rCall F perm np nk fs gs) σ H Q) : tCal W (spF c.K cls n F) np nk perm (tA c W fs) (tA c W gs) σ H Q := by
  obtain ⟨Z, S, fr, h⟩ := h
  refine tA_bind (post := fun r => PostE c W Z σ H S r Q) fr h (fun _ _ h => h) id fun xs S1 h1 vs H1 g1 => ?_
  obtain ⟨l1, _⟩ := ARs_at g1.ar
  split at h1
  · rename_i e1
    refine ⟨l1.trans e1, ?_⟩
    refine tA_bind (post := fun r => PostE c W Z σ H S r Q) g1.step.fr h1 (fun i S' h => ExW.later h g1.step zl) id fun zs S2 h2 us H2 g2 => ?_
    obtain ⟨l2, _⟩ := ARs_at g2.ar
    split at h2
    · rename_i e2
      have g3 := (Gots.app fr g1 g2).perm (perm := perm) (by rw [List.length_append, e1, e2]; exact hp)
      exact ⟨l2.trans e2, calR_post hcl fr g3 (by rw [List.length_map]; exact hn) h2⟩
    · exact h2.elim
  · exact h1.elim
section
variable {X : Cx} {k : Nat} {f : Addr} {fd : FuncData} {ps ks : List Str} {np n : Nat} {perm : List Nat} {x : Str} {p pos : Pos} {e : Expr} {es : List Expr} {kws : List Keyword} {fs gs : FA} {F : List Sv → CR}
theorem PK_imp {t t' : TA} (h : PK X kws t) (i : ∀ σ H Q, t' σ H Q → t σ H Q) : PK X kws t' := ⟨fun pos pins s σ H Q I q => h.run pos pins s σ H Q I (i σ H Q q)⟩
theorem sd_knil : PK X [] (tA c W rNil) := PK_imp pk_nil fun σ H Q ⟨Z, S, fr, h⟩ => h [] H (Gots.nil fr)
theorem sd_kcons {nm : Option Str} {kpos : Pos} {fa : FE} (ha : PE X e (tE c W fa)) (hs : PK X kws (tA c W fs)) : PK X (⟨nm, e, kpos⟩ :: kws) (tA c W (rCons fa fs)) := by
  refine PK_imp (pk_cons ha hs) fun σ H Q ⟨Z, S, fr, h⟩ => ?_
  refine tE_bind (post := fun r => PostA c W Z σ H S r Q) fr h (fun _ _ h => h) id fun x S1 h1 v H1 g1 => ?_
  refine tA_bind (post := fun r => PostA c W Z σ H S r Q) g1.step.fr h1 (fun i S' h => ExW.later h g1.step zl) id fun xs S2 h2 vs H2 g2 => ?_
  exact h2 _ _ (Gots.cons g1 g2)
theorem sd_call (hK : c.K = X.K) (G : FnG X.prog X.w X.K X.mg X.base k f fd ps (spF X.K c.cls ps.length F)) (hr : Room k X.A) (hgd : X.A.guards = some []) (hg : Gl X x) (hm : X.mg x = some (.ref f)) (hk : PySem.W.keepIn X.K (.ref f) = true) (hb : KB X.K fd ps [] np perm) (tkW : L2N.Takes X W)
    (hp : perm.Perm (List.range (np + 0))) (ha : PA X (e :: es) (tA c W fs)) (hdb : (x == ("__debug__" : Str)) = false) (hn : ∀ x ∈ e :: es, NS x) :
    PE X (.Call (.Name x p) (e :: es) [] pos) (tE c W (rCall F perm np 0 fs rNil)) := by
  refine PE_imp (pe_callG G hr hgd hg hm hk hb tkW ha hdb (star_cons (hn e List.mem_cons_self)) (star_none fun x hx => hn x (List.mem_cons_of_mem _ hx))) fun σ H Q h => ?_
  have q := sd_call_go rfl hp hb.len h
  rw [hK] at q
  refine tA_mono q fun vs H1 ⟨l, z⟩ => ⟨l, ?_⟩
  obtain ⟨Z, S, fr, z⟩ := z
  exact z [] H1 (Gots.nil fr)
theorem sd_call0 (hK : c.K = X.K) (G : FnG X.prog X.w X.K X.mg X.base k f fd ps (spF X.K c.cls ps.length F)) (hr : Room k X.A) (hgd : X.A.guards = some []) (hg : Gl X x) (hm : X.mg x = some (.ref f)) (hk : PySem.W.keepIn X.K (.ref f) = true) (hb : KB X.K fd ps [] 0 perm) (tkW : L2N.Takes X W)
    (hp : perm.Perm (List.range (0 + 0))) (hdb : (x == ("__debug__" : Str)) = false) : PE X (.Call (.Name x p) [] [] pos) (tE c W (rCall F perm 0 0 rNil rNil)) := by
  refine PE_imp (pe_callG0 G hr hgd hg hm hk hb tkW hdb) fun σ H Q h => ?_
  have q := sd_call_go rfl hp hb.len h
  rw [hK] at q
  obtain ⟨Z, S, fr, q⟩ := q
  obtain ⟨l, Z2, S2, fr2, z⟩ := q [] H (Gots.nil fr)
  exact ⟨l, z [] H (Gots.nil fr2)⟩
theorem sd_callK (hK : c.K = X.K) (G : FnG X.prog X.w X.K X.mg X.base k f fd ps (spF X.K c.cls ps.length F)) (hr : Room k X.A) (hgd : X.A.guards = some []) (hg : Gl X x) (hm : X.mg x = some (.ref f)) (hk : PySem.W.keepIn X.K (.ref f) = true) (hb : KB X.K fd ps ks np perm) (tkW : L2N.Takes X W)
    (hp : perm.Perm (List.range (np + ks.length))) (ha : PA X (e :: es) (tA c W fs)) (hkw : PK X kws (tA c W gs)) (hall : (backToKw pos (keywordEach kws X.env)).all (·.1.isSome) = true) (hks : (backToKw pos (keywordEach kws X.env)).filterMap (·.1) = ks)
    (hdb : (x == ("__debug__" : Str)) = false) (hn : ∀ x ∈ e :: es, NS x) (hpl : ((backTo pos (starEach (e :: es) X.env)).any (·.1) || (backToKw pos (keywordEach kws X.env)).any (·.1.isNone)) = false) :
    PE X (.Call (.Name x p) (e :: es) kws pos) (tE c W (rCall F perm np ks.length fs gs)) := by
  refine PE_imp (pe_callGK G hr hgd hg hm hk hb tkW ha hkw hall hks hdb (star_cons (hn e List.mem_cons_self)) hpl) fun σ H Q h => ?_
  have q := sd_call_go rfl hp hb.len h
  rw [hK] at q
  exact q
/-- list(range(e)) -/
def rLrg (fa : FE) : FE := fun S => (fa S).bind fun x S1 => match pk S1 x with
  | some (.int n) => if n ≤ 16777216 ∧ -16777216 ≤ n then .ok (.tmp (.own (rngD 0 n.toNat))) S1 else .no
  | _ => .no
theorem sd_lrg {a : Expr} {fa : FE} {p2 pos2 : Pos} (hK : c.K = X.K) (hc : X.calm = true) (gl : Gl X "list") (ml : X.mg "list" = none) (gr : Gl X "range") (mr : X.mg "range" = none) (ha : PE X a (tE c W fa)) (hn : NS a) :
    PE X (.Call (.Name "list" p) [.Call (.Name "range" p2) [a] [] pos2] [] pos) (tE c W (rLrg fa)) := by
  refine PE_imp (pe_listRg hc gl ml (prg_1 gr mr ha (star_cons hn))) fun σ H Q ⟨Z, S, fr, h⟩ => ?_
  refine tE_bind (post := fun r => PostE c W Z σ H S r Q) fr h (fun _ _ h => h) id fun x S1 h1 v H1 g1 => ?_
  split at h1
  · rename_i n q1
    split at h1
    · rename_i hz
      have w := pk_vw g1.step.fr g1.ar q1
      cases w.int
      refine ⟨n, rfl, ⟨by omega, by omega, by omega, by omega, by omega⟩, fun q hq => ?_⟩
      refine h1 _ _ (got_new fr (g1.step.sub zl) (fun _ h => h) ⟨q, _, hq, rfl, rfl, ?_⟩)
      have rp : ∀ (H : Hp) (O : Addr → Prop) (l : List Nat), Rps c.K H O (l.map fun i => V.int (0 + (i : Nat))) (l.map fun k => D.int (0 + (k : Nat))) := fun H O l => by
        induction l with
        | nil => exact .nil
        | cons i l ih => exact .cons (.int _) ih
      have e : rgV 0 n = (List.range n.toNat).map fun i => V.int (0 + (i : Nat)) := by unfold rgV; rw [Int.sub_zero]
      rw [e]
      exact rp _ _ _
    · exact h1.elim
  · exact h1.elim
end
end
end FL

set_option maxRecDepth 100000
set_option maxHeartbeats 4000000
/-! Operators of one argument; dicts. -/
namespace FL
open PySem PySem.Spec PyProof.Rows L2

/-! ### more operators of one argument -/
inductive U1 where
  | lset | rev | sset | dct | dix (i : Nat) | dgt (i : Nat) (d : D) | tset | tsort | rv2
def keyD : D → Option Key
  | .int i => some (.inl i)
  | .str x => some (.inr x)
  | _ => none
def keysD : List D → Option (List Key)
  | [] => some []
  | d :: ds => (keyD d).bind fun k => (keysD ds).map fun ks => k :: ks
/-! ### tables of data -/
section
variable {κ : Type} [DecidableEq κ]
def dVal (kvs : List (κ × D)) (k : κ) : Option D := (kvs.find? fun kv => decide (kv.1 = k)).map (·.2)
def dPut (kvs : List (κ × D)) (k : κ) (v : D) : List (κ × D) := if (kvs.any fun kv => decide (kv.1 = k)) = true then kvs.map (fun kv => if kv.1 = k then (kv.1, v) else kv) else kvs ++ [(k, v)]
def dMerge (kvs more : List (κ × D)) : List (κ × D) := more.foldl (fun acc kv => dPut acc kv.1 kv.2) kvs
def KR (K : PySem.W.Frag) (H : Hp) (O : Addr → Prop) (xs : List (κ × V)) (kvs : List (κ × D)) : Prop := xs.map Prod.fst = kvs.map Prod.fst ∧ Rps K H O (xs.map Prod.snd) (kvs.map Prod.snd)
variable {K : PySem.W.Frag} {H : Hp} {O : Addr → Prop}
theorem KR.nil : KR K H O ([] : List (κ × V)) [] := ⟨rfl, .nil⟩
theorem KR.cases {P : List (κ × V) → List (κ × D) → Prop} (h0 : P [] []) (h1 : ∀ k v d xs kvs, Rp K H O v d → KR K H O xs kvs → P xs kvs → P ((k, v) :: xs) ((k, d) :: kvs)) : ∀ {xs : List (κ × V)} {kvs : List (κ × D)}, KR K H O xs kvs → P xs kvs
  | [], [], _ => h0
  | [], _ :: _, h => by cases h.1
  | _ :: _, [], h => by cases h.1
  | (k, v) :: xs, (j, d) :: kvs, h => by
    obtain ⟨h2, h3⟩ := h
    simp only [List.map_cons, List.cons.injEq] at h2
    obtain ⟨e, h2⟩ := h2
    subst e
    cases h3 with
    | cons a b => exact h1 _ _ _ _ _ a ⟨h2, b⟩ (KR.cases h0 h1 ⟨h2, b⟩)
theorem KR.cons {k : κ} {v : V} {d : D} {xs : List (κ × V)} {kvs : List (κ × D)} (a : Rp K H O v d) (r : KR K H O xs kvs) : KR K H O ((k, v) :: xs) ((k, d) :: kvs) := ⟨by simp [r.1], .cons a r.2⟩
theorem KR.val {xs : List (κ × V)} {kvs : List (κ × D)} (r : KR K H O xs kvs) (k : κ) : (∀ d, dVal kvs k = some d → ∃ v, valV xs k = some v ∧ Rp K H O v d) ∧ (dVal kvs k = none → valV xs k = none) := by
  refine KR.cases (P := fun xs kvs => (∀ d, dVal kvs k = some d → ∃ v, valV xs k = some v ∧ Rp K H O v d) ∧ (dVal kvs k = none → valV xs k = none)) ⟨fun d e => (by cases e), fun _ => rfl⟩ (fun j v d xs kvs a r ih => ?_) r
  by_cases e : j = k
  · subst e
    refine ⟨fun d' q => ?_, fun q => ?_⟩
    · simp [dVal] at q
      subst q
      exact ⟨v, valV_pos rfl, a⟩
    · simp [dVal] at q
  · have e1 : valV ((j, v) :: xs) k = valV xs k := valV_neg e
    have e2 : dVal ((j, d) :: kvs) k = dVal kvs k := by simp [dVal, List.find?_cons, e]
    rw [e1, e2]
    exact ih
theorem KR.any {xs : List (κ × V)} {kvs : List (κ × D)} (r : KR K H O xs kvs) (k : κ) : (xs.any fun kv => decide (kv.1 = k)) = kvs.any fun kv => decide (kv.1 = k) := by
  refine KR.cases (P := fun xs kvs => (xs.any fun kv => decide (kv.1 = k)) = kvs.any fun kv => decide (kv.1 = k)) rfl (fun j v d xs kvs a r ih => ?_) r
  rw [List.any_cons, List.any_cons, ih]
theorem KR.repl {xs : List (κ × V)} {kvs : List (κ × D)} (r : KR K H O xs kvs) (k : κ) {y : V} {u : D} (a : Rp K H O y u) :
    KR K H O (xs.map fun kv => if kv.1 = k then (kv.1, y) else kv) (kvs.map fun kv => if kv.1 = k then (kv.1, u) else kv) := by
  refine KR.cases (P := fun xs kvs => KR K H O (xs.map fun kv => if kv.1 = k then (kv.1, y) else kv) (kvs.map fun kv => if kv.1 = k then (kv.1, u) else kv)) .nil (fun j v d xs kvs b r ih => ?_) r
  rw [List.map_cons, List.map_cons]
  by_cases e : j = k
  · rw [if_pos e, if_pos e]; exact .cons a ih
  · rw [if_neg e, if_neg e]; exact .cons b ih
theorem KR.put {xs : List (κ × V)} {kvs : List (κ × D)} (r : KR K H O xs kvs) (k : κ) {y : V} {u : D} (a : Rp K H O y u) : KR K H O (putK xs k y) (dPut kvs k u) := by
  unfold putK dPut
  rw [r.any k]
  split
  · exact r.repl k a
  · refine ⟨by simp [r.1], ?_⟩
    rw [List.map_append, List.map_append]
    exact r.2.append (.cons a .nil)
theorem KR.length {xs : List (κ × V)} {kvs : List (κ × D)} (r : KR K H O xs kvs) : xs.length = kvs.length := by
  have := congrArg List.length r.1
  simpa using this
theorem KR.mono {H' : Hp} {O' : Addr → Prop} (k : ∀ a o, H a = some o → ¬ O a → H' a = some o) (g : ∀ a, O' a → O a ∨ H a = none) {xs : List (κ × V)} {kvs : List (κ × D)} (r : KR K H O xs kvs) : KR K H' O' xs kvs := ⟨r.1, r.2.mono k g⟩
end
theorem KR.merge {K : PySem.W.Frag} {H : Hp} {O : Addr → Prop} {ys : List (Key × V)} {es : List (Key × D)} (s : KR K H O ys es) : ∀ {xs : List (Key × V)} {kvs : List (Key × D)}, KR K H O xs kvs → KR K H O (mergeK xs ys) (dMerge kvs es) := by
  refine KR.cases (P := fun ys es => ∀ {xs : List (Key × V)} {kvs : List (Key × D)}, KR K H O xs kvs → KR K H O (mergeK xs ys) (dMerge kvs es)) (fun h => h) (fun j v d ys es a r ih xs kvs h => ?_) s
  exact ih (h.put j a)
/-- pairs as a table -/
def pairsD : List D → Option (List (Key × D))
  | [] => some []
  | .tup [k, d] :: ds => (keyD k).bind fun k => (pairsD ds).map fun r => (k, d) :: r
  | _ :: _ => none
def intsD : List D → Option (List Int)
  | [] => some []
  | .int i :: ds => (intsD ds).map fun r => i :: r
  | _ :: _ => none
/-! ### ascending -/
def insU (k : Int) : List Int → List Int
  | [] => [k]
  | j :: r => if k < j then k :: j :: r else if k = j then j :: r else j :: insU k r
def sortU : List Int → List Int
  | [] => []
  | k :: r => insU k (sortU r)
theorem mem_insU {k j : Int} : ∀ {l : List Int}, j ∈ insU k l ↔ j = k ∨ j ∈ l
  | [] => by simp [insU]
  | i :: r => by
    unfold insU
    split
    · simp
    · split
      · rename_i e; subst e; simp
      · rw [List.mem_cons, mem_insU (l := r), List.mem_cons]
        constructor
        · rintro (h | h | h) <;> simp [h]
        · rintro (h | h | h) <;> simp [h]
theorem insU_asc {k : Int} : ∀ {l : List Int}, l.Pairwise (· < ·) → (insU k l).Pairwise (· < ·)
  | [], _ => by simp [insU]
  | i :: r, h => by
    have h' := List.pairwise_cons.mp h
    unfold insU
    split
    · rename_i e
      refine List.pairwise_cons.mpr ⟨fun x hx => ?_, h⟩
      rcases List.mem_cons.mp hx with q | q
      · rw [q]; exact e
      · exact Int.lt_trans e (h'.1 x q)
    · split
      · exact h
      · rename_i e1 e2
        refine List.pairwise_cons.mpr ⟨fun x hx => ?_, insU_asc h'.2⟩
        rcases mem_insU.mp hx with q | q
        · rw [q]; omega
        · exact h'.1 x q
theorem mem_sortU {j : Int} : ∀ {l : List Int}, j ∈ sortU l ↔ j ∈ l
  | [] => by simp [sortU]
  | i :: r => by unfold sortU; rw [mem_insU, mem_sortU (l := r), List.mem_cons]
theorem sortU_asc : ∀ (l : List Int), (sortU l).Pairwise (· < ·)
  | [] => .nil
  | i :: r => insU_asc (sortU_asc r)
theorem asc_ext : ∀ {l m : List Int}, l.Pairwise (· < ·) → m.Pairwise (· < ·) → (∀ k, k ∈ l ↔ k ∈ m) → l = m
  | [], [], _, _, _ => rfl
  | [], x :: m, _, _, h => by have := (h x).mpr (by simp); cases this
  | x :: l, [], _, _, h => by have := (h x).mp (by simp); cases this
  | x :: l, y :: m, h1, h2, h => by
    have a := List.pairwise_cons.mp h1
    have b := List.pairwise_cons.mp h2
    have e : x = y := by
      have q1 := (h x).mp (by simp)
      have q2 := (h y).mpr (by simp)
      rcases List.mem_cons.mp q1 with q | q
      · exact q
      · rcases List.mem_cons.mp q2 with p | p
        · exact p.symm
        · have := a.1 y p; have := b.1 x q; omega
    subst e
    rw [asc_ext a.2 b.2 fun k => ?_]
    constructor
    · intro hk
      rcases List.mem_cons.mp ((h k).mp (by simp [hk])) with q | q
      · subst q; have := a.1 k hk; omega
      · exact q
    · intro hk
      rcases List.mem_cons.mp ((h k).mpr (by simp [hk])) with q | q
      · subst q; have := b.1 k hk; omega
      · exact q
def tkeysD : List D → Option (List (List Key))
  | [] => some []
  | .tup ds :: r => (keysD ds).bind fun k => (tkeysD r).map fun ks => k :: ks
  | _ :: _ => none
/-- len(set(x)), x[::-1], sorted(set(x)), dict(x), slot[x], slot.get(x, d) -/
def u1D : U1 → FS → D → Option Sv
  | .lset, _, .lst ds => (keysD ds).bind fun ks => if ks.length ≤ 4000 then some (.val (.int ((uniq ks).length : Nat))) else none
  | .rev, _, .lst ds => some (.own ds.reverse)
  | .rv2, _, .lst ds => some (.own ds.dropLast.reverse)
  | .tset, _, .lst ds => (tkeysD ds).bind fun ks => if ks.length ≤ 3 then some (.val (.int ((uniqG ks).length : Nat))) else none
  | .sset, _, .lst ds => (intsD ds).bind fun ns => if ns.length < 64 then some (.own ((sortU ns).map D.int)) else none
  | .tsort, _, .lst ds => if treesD ds = true then some (.own (sortD ds)) else none
  | .dct, _, .lst ds => (pairsD ds).map fun kvs => .own (.dk (dMerge [] kvs))
  | .dix i, S, d => match gt S i with
    | some (.own (.dk kvs)) => (keyD d).bind fun k => (dVal kvs k).map Sv.val
    | some (.own (.dt kvs)) => match d with
      | .tup ds => (keysD ds).bind fun k => (dVal kvs k).map Sv.val
      | _ => none
    | _ => none
  | _, _, _ => none
def u1Ok : U1 → FS → Bool
  | .dix i, S => isOwn S i
  | .dgt i _, S => isOwn S i
  | _, _ => true
def rU1 (o : U1) (fa : FE) : FE := fun S => if u1Ok o S = true then (fa S).bind fun x S1 => .of ((pk S1 x).bind fun d => (u1D o S1 d).map Arg.tmp) S1 else .no
theorem u1_go {c : FCx} {W : WX} {Z : Addr → Prop} {σ : Slots} {H : Hp} {S : FS} {Q : VK} {o : U1} {fa : FE} (h : PostE c W Z σ H S (rU1 o fa S) Q) :
    u1Ok o S = true ∧ PostE c W Z σ H S ((fa S).bind fun x S1 => .of ((pk S1 x).bind fun d => (u1D o S1 d).map Arg.tmp) S1) Q := by
  unfold rU1 at h
  split at h
  · rename_i e; exact ⟨e, h⟩
  · exact h.elim
theorem keys_rel {K : PySem.W.Frag} {H : Hp} {O : Addr → Prop} : ∀ {xs : List V} {ds : List D} {ks : List Key}, Rps K H O xs ds → keysD ds = some ks → xs = ks.map kV
  | _, _, _, .nil, e => by cases e; rfl
  | _, d :: ds, _, .cons h r, e => by
    simp only [keysD, Option.bind_eq_some_iff, Option.map_eq_some_iff] at e
    obtain ⟨k, e1, ks, e2, e3⟩ := e
    subst e3
    rw [List.map_cons, keys_rel r e2]
    cases h <;> cases e1 <;> rfl
section
variable {X : Cx} {c : FCx} {W : WX} {a : Expr} {fa : FE} {pos p p2 p3 pos2 : Pos}
theorem sd_lset (hK : c.K = X.K) (hc : X.calm = true) (gl : Gl X "len") (ml : X.mg "len" = none) (gr : Gl X "set") (mr : X.mg "set" = none) (ha : PE X a (tE c W fa)) (hn : NS a) :
    PE X (.Call (.Name "len" p) [.Call (.Name "set" p2) [a] [] pos2] [] pos) (tE c W (rU1 .lset fa)) := by
  refine PE_imp (pe_lenU hc gl ml gr mr ha (star_cons hn)) fun σ H Q ⟨Z, S, fr, h⟩ => ?_
  obtain ⟨hok, h⟩ := u1_go h
  refine tE_bind (post := fun r => PostE c W Z σ H S r Q) fr h (fun _ _ h => h) id fun x S1 h1 v H1 g1 => ?_
  obtain ⟨r, e1, h3⟩ := of_post (post := fun r => PostE c W Z σ H S r Q) h1 id
  simp only [Option.bind_eq_some_iff, Option.map_eq_some_iff] at e1
  obtain ⟨d, e2, sv, e4, rfl⟩ := e1
  cases d with
  | lst ds =>
    simp only [u1D, Option.bind_eq_some_iff] at e4
    obtain ⟨ks, e5, e6⟩ := e4
    split at e6
    · rename_i hz
      cases e6
      obtain ⟨l, xs, e7, hl, r⟩ := (pk_vw g1.step.fr g1.ar e2).lst
      rw [keys_rel r e5, hK] at hl
      refine ⟨l, ks, e7, hl, by unfold scanBound; omega, h3 _ _ (got_new fr (g1.step.sub zl) (fun _ h => h) new_int)⟩
    · cases e6
  | _ => cases e4
theorem sd_rev {k : Nat} {q1 q2 q3 : Pos} (hK : c.K = X.K) (ha : PE X a (tE c W fa)) : PE X (.Subscript a (.Slice none none (some (.UnaryOp .USub (.Constant (.int 1) k q1) q2)) q3) pos) (tE c W (rU1 .rev fa)) := by
  refine PE_imp (pe_revL ha) fun σ H Q ⟨Z, S, fr, h⟩ => ?_
  obtain ⟨hok, h⟩ := u1_go h
  refine tE_bind (post := fun r => PostE c W Z σ H S r Q) fr h (fun _ _ h => h) id fun x S1 h1 v H1 g1 => ?_
  obtain ⟨r, e1, h3⟩ := of_post (post := fun r => PostE c W Z σ H S r Q) h1 id
  simp only [Option.bind_eq_some_iff, Option.map_eq_some_iff] at e1
  obtain ⟨d, e2, sv, e4, rfl⟩ := e1
  cases d with
  | lst ds =>
    cases e4
    obtain ⟨l, xs, e7, hl, r⟩ := (pk_vw g1.step.fr g1.ar e2).lst
    rw [hK] at hl
    exact ⟨l, xs, e7, hl, fun q hq => h3 _ _ (got_new fr g1.step zl ⟨q, _, hq, rfl, rfl, r.reverse⟩)⟩
  | _ => cases e4
end

theorem ints_rel {K : PySem.W.Frag} {H : Hp} {O : Addr → Prop} : ∀ {xs : List V} {ds : List D} {ns : List Int}, Rps K H O xs ds → intsD ds = some ns → xs = ns.map V.int
  | _, _, _, .nil, e => by cases e; rfl
  | _, d :: ds, _, .cons h r, e => by
    cases d <;> first | (simp [intsD] at e; done) | skip
    simp only [intsD, Option.map_eq_some_iff] at e
    obtain ⟨ns, e2, e3⟩ := e
    subst e3
    cases h
    rw [List.map_cons, ints_rel r e2]
theorem key_rel {K : PySem.W.Frag} {H : Hp} {O : Addr → Prop} {v : V} {d : D} {k : Key} (h : Rp K H O v d) (e : keyD d = some k) : v = kV k := by
  cases h <;> first | (simp [keyD] at e; done) | skip
  all_goals (simp only [keyD, Option.some.injEq] at e; subst e; rfl)
theorem key_vw {K : PySem.W.Frag} {H : Hp} {O : Addr → Prop} {v : V} {d : D} {k : Key} (h : Vw K H O v d) (e : keyD d = some k) : v = kV k := by
  cases d with
  | int i => cases h.int; simp only [keyD, Option.some.injEq] at e; subst e; rfl
  | str i => cases h.str; simp only [keyD, Option.some.injEq] at e; subst e; rfl
  | _ => simp [keyD] at e
theorem pairs_rel {K : PySem.W.Frag} {H : Hp} {O : Addr → Prop} : ∀ {xs : List V} {ds : List D} {kvs : List (Key × D)}, Rps K H O xs ds → pairsD ds = some kvs →
    ∃ (ps : List Addr) (ys : List (Key × V)), xs = ps.map V.ref ∧ Paired (fun p kv => SqT K H p [kV kv.1, kv.2]) ps ys ∧ KR K H O ys kvs
  | _, _, _, .nil, e => by cases e; exact ⟨[], [], rfl, .nil, .nil⟩
  | v :: vs, d :: ds, _, .cons h r, e => by
    unfold pairsD at e
    split at e
    · rename_i he; cases he
    · rename_i k d1 ds1 he
      cases he
      simp only [Option.bind_eq_some_iff, Option.map_eq_some_iff] at e
      obtain ⟨k1, e1, r1, e2, e3⟩ := e
      subst e3
      obtain ⟨ps, ys, h1, h2, h3⟩ := pairs_rel r e2
      obtain ⟨p, zs, e0, sq, rs, _⟩ := h.vw.tup
      subst e0
      cases rs with
      | cons a rs =>
        cases rs with
        | cons b rs =>
          cases rs
          rename_i x1 x2
          have ek := key_rel a e1
          refine ⟨p :: ps, (k1, x2) :: ys, by rw [h1]; rfl, .cons ?_ h2, .cons b h3⟩
          show SqT K H p [kV k1, x2]
          rw [← ek]
          exact sq
    · cases e
/-! sorted(set(xs)) -/
def tSSet (K : PySem.W.Frag) (ta : TE) : TE := fun σ H Q => ta σ H fun x H1 => ∃ l ns, x = .ref l ∧ SqL K H1 l (ns.map V.int) ∧ ns.length < 64 ∧ ∀ p, H1 p = none → Q (.ref p) (upd H1 p (.lst ((sortU ns).map V.int)))
theorem uniq_mem : ∀ {ks : List Key} {k : Key}, k ∈ uniq ks ↔ k ∈ ks := by
  have key : ∀ (ks us : List Key) (k : Key), k ∈ ks.foldl addU us ↔ k ∈ us ∨ k ∈ ks := by
    intro ks
    induction ks with
    | nil => intro us k; simp
    | cons j ks ih =>
      intro us k
      rw [List.foldl_cons, ih, mem_addU, List.mem_cons, or_assoc]
  intro ks k
  unfold uniq
  rw [key]
  simp
theorem pe_sset {X : Cx} {a : Expr} {ta : TE} {p p2 q pos : Pos} (calm : X.calm = true) (gl : Gl X "sorted") (ml : X.mg "sorted" = none) (gs : Gl X "set") (ms : X.mg "set" = none) (ha : PE X a ta)
    (na : starEach [a] X.env = (false, eval a X.env) :: starEach [] X.env) : PE X (.Call (.Name "sorted" p) [.Call (.Name "set" p2) [a] [] q] [] pos) (tSSet X.K ta) := by
  refine ⟨fun pins s σ H Q I h => Call_ (ld_blt I gl ml (show bootBuiltins ("sorted" : Str) = some (.builtin "sorted") by decide +kernel) (PyProof.Rows.callWith_builtin1 (PyProof.Rows.args_cons (Call_ (ld_blt I gs ms boot_set ?_)) rfl) rfl rfl))⟩
  refine PyProof.Rows.callWith_type1 (PyProof.Rows.args_cons (thn (ha.run pins s σ H _ I h) fun v s1 ⟨x, H1, I1, r1, l, ns, e, hq, h64, q1⟩ => PyProof.Rows.args_nil ?_) na) na rfl
  subst e
  cases r1
  obtain ⟨its, r, pl, _⟩ := I1.list hq
  refine set_ints (I1.ok.hd calm) pl.isList r (by unfold scanBound; omega) fun h' tk hS hk => PyProof.Rows.args_nil ?_
  have I2 : Inv X pins σ H1 { s1 with heap := h', toks := tk } := I1.kept fun b o e => hk b o (Heap.lt_size e) e
  have small : (uniq (ns.map Sum.inl)).length < 64 := by
    have := len_uniq (ns.map (Sum.inl : Int → Key))
    rw [List.length_map] at this
    omega
  have key : ∀ (t1 : Shared) (a0 : Addr), Inv X pins σ H1 t1 → SetR X.w t1.heap a0 (fun j => decide (Sum.inl j ∈ uniq (ns.map Sum.inl))) (uniq (ns.map Sum.inl)).length →
      wpAny (model X.prog X.w) X.A (call (.builtin "sorted") [.ref a0]) (EP X pins σ Q) X.xe t1 := by
    intro t1 a0 I2 hS
    refine sorted_set hS (I2.ok.hd calm) small fun s' p out c ms k g o hp hg hi hs hm hl => ?_
    have em : ms = sortU ns := asc_ext hs (sortU_asc ns) fun j => by
      rw [hm j, mem_sortU, decide_eq_true_eq, uniq_mem]
      simp
    subst em
    have hlen : ((sortU ns).map V.int).length ≤ sizeLine := by rw [List.length_map, hl, sizeLine_eq]; omega
    have hn : H1 p = none := I2.hok.fresh hp
    have J : Inv X pins σ (upd H1 p (.lst ((sortU ns).map V.int))) { t1 with heap := s'.heap, gens := s'.gens, drawn := s'.drawn, toks := s'.toks } :=
      I2.call (ch := []) (Un.laid k hp hn) (I2.hok.laid k hp ⟨hlen, out.toList, c, vals_of_ints hi, hg⟩) (by rw [g]; exact I2.bare) (fun _ z => nomatch z)
    have e : s' = { t1 with heap := s'.heap, gens := s'.gens, drawn := s'.drawn, toks := s'.toks } := by
      cases s'
      cases t1
      cases o
      rfl
    rw [e]
    exact ⟨.ref p, _, J, rfl, q1 p hn⟩
  exact key _ _ I2 hS
/-! slot[key] -/
def DGetB (K : PySem.W.Frag) (H : Hp) (a : Addr) (y : V) (r : Option V) : Prop :=
  (∃ kvs k, Rd H a (.dK kvs) ∧ y = kV k ∧ r = valV kvs k) ∨ ∃ kvs k b, Rd H a (.dT kvs) ∧ y = .ref b ∧ SqT K H b (k.map kV) ∧ r = valV kvs k
theorem d_getItemB {X : Cx} {pins : List (Addr × Obj)} {σ : L2.St} {H : Hp} {s : Shared} {a : Addr} {y v : V} {u : Value} {A : Around} {E : Value → Shared → Prop} {Q : Value → Shared → Prop} (hu : A.units + 1 < cLine) (I : Inv X pins σ H s) (g : DGetB X.K H a y (some v)) (ry : RelV y u) (h : ∀ w' s', Inv X pins σ H s' → RelV v w' → Q w' s') :
    wpAny (model X.prog X.w) A (getItem (.ref a) u) Q E s ∧ s.TypeIs (.ref a) "dict" := by
  rcases g with ⟨kvs, k, e, ey, l⟩ | ⟨kvs, k, b, e, ey, eb, l⟩
  · subst ey
    obtain ⟨z, hd, vs, rel, dd⟩ := dk_rd I.hok e
    obtain ⟨w', hw, rw'⟩ := RelO.some_of (v := v) (o := valueAt vs k) (by rw [l]; exact rel.val k)
    exact ⟨wpAny_getItem_of (kV_is ry) dd.mapOf hw (h w' _ (I.tok _) rw'), dd.typeIs⟩
  · subst ey
    cases (show u = Value.ref b from ry)
    obtain ⟨z, hd, xs, rel, dd⟩ := dt_rd I.hok e
    obtain ⟨w', hw, rw'⟩ := RelO.some_of (v := v) (o := (atKey xs k).map (·.2)) (by rw [l]; exact rel.val k)
    obtain ⟨p, hp, hp2⟩ := Option.map_eq_some_iff.mp hw
    refine ⟨wpAny_getItem_heap (tupleKind_room_in1 hu) (keyT_of I eb) dd hp ?_, dd.typeIs⟩
    rw [hp2]
    exact h w' _ (I.tok _) rw'
def tDGetB (K : PySem.W.Frag) (td ty : TE) : TE := fun σ H Q => td σ H fun x H1 => ty σ H1 fun y H2 => ∃ a v, x = .ref a ∧ DGetB K H2 a y (some v) ∧ Q v H2
theorem pe_dgetB {X : Cx} {o i : Expr} {pos : Pos} {td ty : TE} (hu : X.A.units + 1 < cLine) (ho : PE X o td) (hi : PE X i ty) (hs : NoSl i) : PE X (.Subscript o i pos) (tDGetB X.K td ty) := by
  refine ⟨fun pins s σ H Q I h => ?_⟩
  refine subD_of PySem.F.slot_dict_getitem.lookup hs (thn (ho.run pins s σ H _ I h) fun u s1 ⟨x, H1, I1, rx, q1⟩ => thn (hi.run pins s1 σ H1 _ I1 q1) fun iv s2 ⟨y, H2, I2, ry, a, v, ex, g, q2⟩ => ?_)
  subst ex
  obtain rfl : u = Value.ref a := rx
  obtain ⟨w, t⟩ := d_getItemB hu I2 g ry fun w' s3 I3 rw' => (⟨v, H2, I3, rw', q2⟩ : EP X pins σ Q w' s3)
  exact ⟨t, w⟩
section
variable {X : Cx} {c : FCx} {W : WX} {a : Expr} {fa : FE} {pos p p2 p3 pos2 : Pos}
theorem sd_tsort (hK : c.K = X.K) (hu : X.A.units + 70 < cLine) (gl : Gl X "sorted") (ml : X.mg "sorted" = none) (ha : PE X a (tE c W fa)) (hn : NS a) : PE X (.Call (.Name "sorted" p) [a] [] pos) (tE c W (rU1 .tsort fa)) := by
  refine PE_imp (pe_tsort hu gl ml ha (star_cons hn)) fun σ H Q ⟨Z, S, fr, h⟩ => ?_
  obtain ⟨hok, h⟩ := u1_go h
  refine tE_bind (post := fun r => PostE c W Z σ H S r Q) fr h (fun _ _ h => h) id fun x S1 h1 v H1 g1 => ?_
  obtain ⟨r, e1, h3⟩ := of_post (post := fun r => PostE c W Z σ H S r Q) h1 id
  simp only [Option.bind_eq_some_iff, Option.map_eq_some_iff] at e1
  obtain ⟨d, e2, sv, e4, rfl⟩ := e1
  cases d with
  | lst ds =>
    simp only [u1D] at e4
    split at e4
    · rename_i hz
      cases e4
      obtain ⟨l, xs, e7, hl, r⟩ := (pk_vw g1.step.fr g1.ar e2).lst
      rw [hK] at hl r
      refine ⟨l, xs, ds, _, e7, hl, r, hz, fun q xs' hq rr => h3 _ _ (got_new fr g1.step zl ⟨q, _, hq, rfl, rfl, by rw [hK]; exact rr⟩)⟩
    · cases e4
  | _ => cases e4
theorem sd_sset (hK : c.K = X.K) (hc : X.calm = true) (gl : Gl X "sorted") (ml : X.mg "sorted" = none) (gr : Gl X "set") (mr : X.mg "set" = none) (ha : PE X a (tE c W fa)) (hn : NS a) :
    PE X (.Call (.Name "sorted" p) [.Call (.Name "set" p2) [a] [] pos2] [] pos) (tE c W (rU1 .sset fa)) := by
  refine PE_imp (pe_sset hc gl ml gr mr ha (star_cons hn)) fun σ H Q ⟨Z, S, fr, h⟩ => ?_
  obtain ⟨hok, h⟩ := u1_go h
  refine tE_bind (post := fun r => PostE c W Z σ H S r Q) fr h (fun _ _ h => h) id fun x S1 h1 v H1 g1 => ?_
  obtain ⟨r, e1, h3⟩ := of_post (post := fun r => PostE c W Z σ H S r Q) h1 id
  simp only [Option.bind_eq_some_iff, Option.map_eq_some_iff] at e1
  obtain ⟨d, e2, sv, e4, rfl⟩ := e1
  cases d with
  | lst ds =>
    simp only [u1D, Option.bind_eq_some_iff] at e4
    obtain ⟨ns, e5, e6⟩ := e4
    split at e6
    · rename_i hz
      cases e6
      obtain ⟨l, xs, e7, hl, r⟩ := (pk_vw g1.step.fr g1.ar e2).lst
      rw [ints_rel r e5, hK] at hl
      refine ⟨l, ns, e7, hl, hz, fun q hq => h3 _ _ (got_new fr (g1.step.sub zl) (fun _ h => h) ⟨q, _, hq, rfl, rfl, Rps.ints⟩)⟩
    · cases e6
  | _ => cases e4
theorem tkeys_rel {K : PySem.W.Frag} {H : Hp} {O : Addr → Prop} : ∀ {xs : List V} {ds : List D} {ks : List (List Key)}, Rps K H O xs ds → tkeysD ds = some ks → ∃ ps : List (Addr × List Key), xs = ps.map (fun p => V.ref p.1) ∧ ps.map (·.2) = ks ∧ ∀ p ∈ ps, SqT K H p.1 (p.2.map kV)
  | _, _, _, .nil, e => by cases e; exact ⟨[], rfl, rfl, fun _ h => nomatch h⟩
  | v :: vs, d :: ds, _, .cons h r, e => by
    unfold tkeysD at e
    split at e
    · rename_i he; cases he
    · rename_i es ds1 he
      cases he
      simp only [Option.bind_eq_some_iff, Option.map_eq_some_iff] at e
      obtain ⟨k, e1, ks, e2, e3⟩ := e
      subst e3
      obtain ⟨ps, h1, h2, h3⟩ := tkeys_rel r e2
      obtain ⟨p, zs, e0, sq, rs, _⟩ := h.vw.tup
      subst e0
      rw [keys_rel rs e1] at sq
      refine ⟨(p, k) :: ps, by rw [h1]; rfl, by rw [List.map_cons, h2], fun q hq => ?_⟩
      rcases List.mem_cons.mp hq with z | z
      · rw [z]; exact sq
      · exact h3 q z
    · cases e
theorem sd_tset (hK : c.K = X.K) (hu : X.A.units + 3 < cLine) (hc : X.calm = true) (gl : Gl X "len") (ml : X.mg "len" = none) (gr : Gl X "set") (mr : X.mg "set" = none) (ha : PE X a (tE c W fa)) (hn : NS a) :
    PE X (.Call (.Name "len" p) [.Call (.Name "set" p2) [a] [] pos2] [] pos) (tE c W (rU1 .tset fa)) := by
  refine PE_imp (pe_lenT hc hu gl ml gr mr ha (star_cons hn)) fun σ H Q ⟨Z, S, fr, h⟩ => ?_
  obtain ⟨hok, h⟩ := u1_go h
  refine tE_bind (post := fun r => PostE c W Z σ H S r Q) fr h (fun _ _ h => h) id fun x S1 h1 v H1 g1 => ?_
  obtain ⟨r, e1, h3⟩ := of_post (post := fun r => PostE c W Z σ H S r Q) h1 id
  simp only [Option.bind_eq_some_iff, Option.map_eq_some_iff] at e1
  obtain ⟨d, e2, sv, e4, rfl⟩ := e1
  cases d with
  | lst ds =>
    simp only [u1D, Option.bind_eq_some_iff] at e4
    obtain ⟨ks, e5, e6⟩ := e4
    split at e6
    · rename_i hz
      cases e6
      obtain ⟨l, xs, e7, hl, r⟩ := (pk_vw g1.step.fr g1.ar e2).lst
      obtain ⟨ps, k1, k2, k3⟩ := tkeys_rel r e5
      subst k1; subst k2
      rw [hK] at hl k3
      exact ⟨l, ps, e7, hl, k3, by rw [List.length_map] at hz; exact hz, h3 _ _ (got_new fr (g1.step.sub zl) (fun _ h => h) new_int)⟩
    · cases e6
  | _ => cases e4
theorem sd_dct (hK : c.K = X.K) (hc : X.calm = true) (gl : Gl X "dict") (ml : X.mg "dict" = none) (ha : PE X a (tE c W fa)) (hn : NS a) :
    PE X (.Call (.Name "dict" p) [a] [] pos) (tE c W (rU1 .dct fa)) := by
  refine PE_imp (pe_callTy (call_dictP hc) gl ml (by decide +kernel) (pa_cons ha pa_nil (star_cons hn)) (by decide +kernel) (by decide +kernel) (star_cons hn) rfl) fun σ H Q ⟨Z, S, fr, h⟩ => ?_
  obtain ⟨hok, h⟩ := u1_go h
  refine tE_bind (post := fun r => PostE c W Z σ H S r Q) fr h (fun _ _ h => h) id fun x S1 h1 v H1 g1 => ?_
  obtain ⟨r, e1, h3⟩ := of_post (post := fun r => PostE c W Z σ H S r Q) h1 id
  simp only [Option.bind_eq_some_iff, Option.map_eq_some_iff] at e1
  obtain ⟨d, e2, sv, e4, rfl⟩ := e1
  cases d with
  | lst ds =>
    simp only [u1D, Option.map_eq_some_iff] at e4
    obtain ⟨kvs, e5, e6⟩ := e4
    subst e6
    obtain ⟨l, xs, e7, hl, r⟩ := (pk_vw g1.step.fr g1.ar e2).lst
    obtain ⟨ps, ys, k1, k2, k3⟩ := pairs_rel r e5
    subst k1
    rw [hK] at hl k2
    refine ⟨l, ps, ys, by rw [e7], hl, k2, fun q hq => h3 _ _ (got_new fr g1.step zl ?_)⟩
    obtain ⟨m1, m2⟩ := k3.merge .nil
    exact ⟨q, _, hq, rfl, rfl, m1, m2⟩
  | _ => cases e4
theorem nosl_of {i : Expr} (h : PlainIx i) : NoSl i := fun ov iv => h ov iv
theorem sd_dix {i : Nat} {x : Str} (hK : c.K = X.K) (hu : X.A.units + 1 < cLine) (hN : X.N[i]? = some x) (hv : Vis X.env.scope x) (hd : (x == ("__debug__" : Str)) = false) (hcd : (x == ("__classdict__" : Str)) = false) (ha : PE X a (tE c W fa)) (hs : PlainIx a) :
    PE X (.Subscript (.Name x p) a pos) (tE c W (rU1 (.dix i) fa)) := by
  refine PE_imp (pe_dgetB hu (pe_slot hN hv hd hcd) ha (nosl_of hs)) fun σ H Q ⟨Z, S, fr, h⟩ => ?_
  obtain ⟨hok, h⟩ := u1_go h
  have core : ∀ v0, σ[i]? = some (some v0) → tE c W fa σ H fun y H2 => ∃ a v, v0 = .ref a ∧ DGetB X.K H2 a y (some v) ∧ Q v H2 := by
    intro v0 hv0
    refine tE_bind (post := fun r => PostE c W Z σ H S r Q) fr h (fun _ _ h => h) id fun x S1 h1 v H1 g1 => ?_
    obtain ⟨r, e1, h3⟩ := of_post (post := fun r => PostE c W Z σ H S r Q) h1 id
    simp only [Option.bind_eq_some_iff, Option.map_eq_some_iff] at e1
    obtain ⟨d, e2, sv, e4, rfl⟩ := e1
    have vw := pk_vw g1.step.fr g1.ar e2
    simp only [u1D] at e4
    split at e4
    · rename_i kvs q
      simp only [Option.bind_eq_some_iff, Option.map_eq_some_iff] at e4
      obtain ⟨k, e5, r, e6, rfl⟩ := e4
      obtain ⟨u, w1, p, xs, w2, w3, w4, w5⟩ := g1.step.fr.rel i _ q
      rw [hv0] at w1; cases w1
      obtain ⟨y, y1, y2⟩ := (KR.val (show KR c.K H1 _ xs kvs from ⟨w4, w5⟩) k).1 r e6
      refine ⟨p, y, w2, .inl ⟨xs, k, .inl w3, key_vw vw e5, y1.symm⟩, h3 _ _ (got_new fr g1.step zl (.inl ⟨rfl, y2⟩))⟩
    · rename_i kvs q
      cases d with
      | tup ds =>
        simp only [Option.bind_eq_some_iff, Option.map_eq_some_iff] at e4
        obtain ⟨k, e5, r, e6, rfl⟩ := e4
        obtain ⟨u, w1, p, xs, w2, w3, w4, w5⟩ := g1.step.fr.rel i _ q
        rw [hv0] at w1; cases w1
        obtain ⟨y, y1, y2⟩ := (KR.val (show KR c.K H1 _ xs kvs from ⟨w4, w5⟩) k).1 r e6
        obtain ⟨b, zs, v1, v2, v3, _⟩ := vw.tup
        rw [keys_rel v3 e5, hK] at v2
        refine ⟨p, y, w2, .inr ⟨xs, k, b, .inl w3, v1, v2, y1.symm⟩, h3 _ _ (got_new fr g1.step zl (.inl ⟨rfl, y2⟩))⟩
      | _ => cases e4
    · cases e4
  obtain ⟨b, hb⟩ := isOwn_iff hok
  obtain ⟨v0, hv0, _⟩ := fr.rel i _ hb
  exact ⟨v0, hv0, core v0 hv0⟩
end
end FL

set_option maxRecDepth 100000
set_option maxHeartbeats 4000000
/-! Stores into dicts, empty dicts, equal dicts, x if t else y as a test, x[-2::-1]. -/
namespace FL
open PySem PySem.Spec PyProof.Rows L2

/-- slot[k] = e, keys ints and texts -/
def sDput (i : Nat) (fk fa : FE) : FSt := fun S => (fa S).toO fun x S1 => if isOwn S1 i = true then (fk S1).toO fun y S2 => match (pk S2 y).bind keyD with
    | some k => match tk S2 x with
      | some (d, S3) => match gt S3 i with
        | some (.own (.dk kvs)) => if kvs.length < lineN then .nx (st S3 i (some (.own (.dk (dPut kvs k d))))) else .no
        | _ => .no
      | none => .no
    | none => .no
  else .no
/-- slot[a, b] = e -/
def sDpt (i : Nat) (fs : FA) (fa : FE) : FSt := fun S => (fa S).toO fun x S1 => if isOwn S1 i = true then (fs S1).toO fun ys S2 => match (pks S2 ys).bind keysD with
    | some k => match tk S2 x with
      | some (d, S3) => match gt S3 i with
        | some (.own (.dt kvs)) => if kvs.length < lineN ∧ k.length ≤ lineN then .nx (st S3 i (some (.own (.dt (dPut kvs k d))))) else .no
        | _ => .no
      | none => .no
    | none => .no
  else .no
/-- {}: t = keys will be tuples -/
def rD0 (t : Bool) : FE := fun S => .ok (.tmp (.own (if t = true then .dt [] else .dk []))) S
def dSame (a b : List (Key × D)) : Bool := a.length == b.length && a.all fun p => match p.2, dVal b p.1 with
  | .int n, some (.int m) => decide (n = m)
  | _, _ => false
/-- two slots' dicts, which are equal -/
def rDcm (ne : Bool) (i j : Nat) : FT := fun S => match gt S i, gt S j with
  | some (.own (.dk a)), some (.own (.dk b)) => if dSame a b = true then .ok (!ne) S else .no
  | _, _ => .no
def rIfT (t f g : FT) : FT := fun S => (t S).bind fun b S1 => if b = true then f S1 else g S1
def rRv2 (fa : FE) : FE := fun S => (fa S).bind fun x S1 => .of ((pk S1 x).bind fun d => match d with | .lst ds => some (.tmp (.own ds.dropLast.reverse)) | _ => none) S1

theorem keys_vws {K : PySem.W.Frag} {H : Hp} {O : Addr → Prop} : ∀ {xs : List V} {ds : List D} {ks : List Key}, Vws K H O xs ds → keysD ds = some ks → xs = ks.map kV
  | _, _, _, .nil, e => by cases e; rfl
  | _, d :: ds, _, .cons h r, e => by
    simp only [keysD, Option.bind_eq_some_iff, Option.map_eq_some_iff] at e
    obtain ⟨k, e1, ks, e2, e3⟩ := e
    subst e3
    rw [List.map_cons, keys_vws r e2, key_vw h e1]
section
variable {X : Cx} {c : FCx} {W : WX} {a b e : Expr} {es : List Expr} {fa fb fi fk : FE} {fs : FA} {t f g : FT} {pos p : Pos}
theorem dk_at {Z : Addr → Prop} {σ : Slots} {H : Hp} {S : FS} {i : Nat} {kvs : List (Key × D)} (fr : Fr c Z σ H S) (h : gt S i = some (.own (.dk kvs))) : ∃ a xs, σ[i]? = some (some (.ref a)) ∧ H a = some (.dK xs) ∧ KR c.K H (OO σ S Z) xs kvs := by
  obtain ⟨u, e, a, xs, e1, ha, r1, r2⟩ := fr.rel i _ h
  subst e1
  exact ⟨a, xs, e, ha, r1, r2⟩
theorem dt_at {Z : Addr → Prop} {σ : Slots} {H : Hp} {S : FS} {i : Nat} {kvs : List (List Key × D)} (fr : Fr c Z σ H S) (h : gt S i = some (.own (.dt kvs))) : ∃ a xs, σ[i]? = some (some (.ref a)) ∧ H a = some (.dT xs) ∧ KR c.K H (OO σ S Z) xs kvs := by
  obtain ⟨u, e, a, xs, e1, ha, r1, r2⟩ := fr.rel i _ h
  subst e1
  exact ⟨a, xs, e, ha, r1, r2⟩
theorem tA_toO2 {Z Z2 : Addr → Prop} {σ : Slots} {H H1 : Hp} {S S1 : FS} {E : Ends} {k : List Arg → FS → O} {Q1 : List V → Hp → Prop} (x0 : Step c Z2 σ H S σ H1 S1) (hZ : ∀ a, Z a → Z2 a) (h : PostS c W Z σ H S ((fs S1).toO k) E)
    (hok : ∀ x S2, PostS c W Z σ H S (k x S2) E → ∀ v H2, Gots c Z2 σ H1 S1 H2 S2 v x → Q1 v H2) : tA c W fs σ H1 Q1 := by
  refine ⟨Z2, S1, x0.fr, ?_⟩
  cases q : fs S1 with
  | ok x S2 => rw [q] at h; exact hok x S2 h
  | ex i S2 => rw [q] at h; exact fun H' g => h σ H' ((x0.trans g).sub hZ)
  | no => rw [q] at h; exact h
theorem sd_dput {i : Nat} {x : Str} (hu : X.A.units + 1 < cLine) (hN : X.N[i]? = some x) (hv : Vis X.env.scope x) (hd : (x == ("__debug__" : Str)) = false) (hcd : (x == ("__classdict__" : Str)) = false) (hi : PE X b (tE c W fk)) (ha : PE X e (tE c W fa)) {p2 : Pos}
    (hs : swapsWith e (some (.Subscript (.Name x p) b p2)) pos.line X.env = pure false) :
    PS X (.Assign [.Subscript (.Name x p) b p2] e pos) (tS c W (sDput i fk fa)) := by
  refine PS_imp (ps_dput hu (pe_slot hN hv hd hcd) hi ha hs) fun E σ H ⟨Z, S, fr, h⟩ => ?_
  refine tE_toO fr h fun x S1 h1 v H1 g1 => ?_
  split at h1
  · rename_i q1
    obtain ⟨bx, q1⟩ := isOwn_iff q1
    obtain ⟨v0, e1, _⟩ := g1.step.fr.rel i _ q1
    refine ⟨v0, e1, ?_⟩
    refine tE_toO2 g1.step zl h1 fun y S2 h2 u H2 g2 => ?_
    split at h2
    · rename_i k q2
      obtain ⟨kd, q2, q3⟩ := Option.bind_eq_some_iff.mp q2
      split at h2
      · rename_i d S3 q4
        split at h2
        · rename_i kvs q5
          split at h2
          · rename_i hz
            have w := key_vw (pk_vw g2.step.fr g2.ar q2) q3
            have s2 : Step c (Zt Z (tmpA v x)) σ H S σ H2 S2 := g1.step.trans (g2.step.sub zl)
            have a2 := g1.onto (g2.step.sub (Z := Zt Z (tmpA v x)) zl) fun a z => .inl z
            obtain ⟨s3, rd⟩ := tk_step fr s2 a2 g1.new (fun _ h => h) q4
            have s3' := s3.sub (Z := Z) zl
            obtain ⟨l2, ls2, w1, w2, w3⟩ := dk_at s3'.fr q5
            rw [e1] at w1; cases w1
            subst w
            have wr := s3'.fr.writeB (ds' := .dk (dPut kvs k d)) (xs' := .dK (putK ls2 k v)) q5 e1 fun O' kk g => ⟨l2, _, rfl, upd_same, ((w3.put k rd).mono kk g).1, ((w3.put k rd).mono kk g).2⟩
            exact ⟨l2, _, rfl, .k w2 (by rw [w3.length, ← lineN_eq]; exact hz), h2 _ _ (s3'.trans wr)⟩
          · exact h2.elim
        · exact h2.elim
      · exact h2.elim
    · exact h2.elim
  · exact h1.elim
theorem sd_dpt {i k0 : Nat} {x : Str} {p3 : Pos} (hu : X.A.units + 1 < cLine) (hN : X.N[i]? = some x) (hv : Vis X.env.scope x) (hd : (x == ("__debug__" : Str)) = false) (hcd : (x == ("__classdict__" : Str)) = false) (hi : PA X es (tA c W fs)) (ha : PE X e (tE c W fa)) {p2 : Pos}
    (hs : swapsWith e (some (.Subscript (.Name x p) (.Tuple es k0 p3) p2)) pos.line X.env = pure false) :
    PS X (.Assign [.Subscript (.Name x p) (.Tuple es k0 p3) p2] e pos) (tS c W (sDpt i fs fa)) := by
  refine PS_imp (ps_dput hu (pe_slot hN hv hd hcd) (pe_tup hi) ha hs) fun E σ H ⟨Z, S, fr, h⟩ => ?_
  refine tE_toO fr h fun x S1 h1 v H1 g1 => ?_
  split at h1
  · rename_i q1
    obtain ⟨bx, q1⟩ := isOwn_iff q1
    obtain ⟨v0, e1, _⟩ := g1.step.fr.rel i _ q1
    refine ⟨v0, e1, ?_⟩
    refine tA_toO2 g1.step zl h1 fun ys S2 h2 us H2 g2 => ?_
    split at h2
    · rename_i k q2
      obtain ⟨kd, q2, q3⟩ := Option.bind_eq_some_iff.mp q2
      split at h2
      · rename_i d S3 q4
        split at h2
        · rename_i kvs q5
          split at h2
          · rename_i hz
            have w := keys_vws (pks_vws g2.step.fr g2.ar q2) q3
            subst w
            refine ⟨by rw [List.length_map, ← lineN_eq]; exact hz.2, fun p hp => ?_⟩
            have s2 : Step c (Zt Z (tmpA v x)) σ H S σ H2 S2 := g1.step.trans (g2.step.sub zl)
            have a2 := g1.onto (g2.step.sub (Z := Zt Z (tmpA v x)) zl) fun a z => .inl z
            have al := s2.fr.stepA (upd_keep (o := .tup (k.map kV)) hp)
            have s2b := s2.trans al
            have a2b := a2.mono (fun a o e _ => upd_keep (o := .tup (k.map kV)) hp a o e) (fun _ z => .inl z) fun a _ o e => upd_keep (o := .tup (k.map kV)) hp a o e
            obtain ⟨s3, rd⟩ := tk_step fr s2b a2b g1.new (fun _ h => h) q4
            have s3' := s3.sub (Z := Z) zl
            obtain ⟨l2, ls2, w1, w2, w3⟩ := dt_at s3'.fr q5
            rw [e1] at w1; cases w1
            have wr := s3'.fr.writeB (ds' := .dt (dPut kvs k d)) (xs' := .dT (putK ls2 k v)) q5 e1 fun O' kk g => ⟨l2, _, rfl, upd_same, ((w3.put k rd).mono kk g).1, ((w3.put k rd).mono kk g).2⟩
            exact ⟨l2, _, rfl, .t w2 upd_same (by rw [w3.length, ← lineN_eq]; exact hz.1), h2 _ _ (s3'.trans wr)⟩
          · exact h2.elim
        · exact h2.elim
      · exact h2.elim
    · exact h2.elim
  · exact h1.elim
theorem sd_d0 {t : Bool} : PE X (.Dict [] [] pos) (tE c W (rD0 t)) := by
  cases t with
  | true =>
    refine PE_imp pe_dnewT fun σ H Q ⟨Z, S, fr, h⟩ => fun p hp => ?_
    exact h _ _ (got_new fr fr.step (fun _ h => h) ⟨p, [], hp, rfl, rfl, rfl, .nil⟩)
  | false =>
    refine PE_imp pe_dnewK fun σ H Q ⟨Z, S, fr, h⟩ => fun p hp => ?_
    exact h _ _ (got_new fr fr.step (fun _ h => h) ⟨p, [], hp, rfl, rfl, rfl, .nil⟩)
theorem kr_same {K : PySem.W.Frag} {H : Hp} {O : Addr → Prop} {ys : List (Key × V)} {b : List (Key × D)} (rb : KR K H O ys b) {xs : List (Key × V)} {a : List (Key × D)} (ra : KR K H O xs a) (h : (a.all fun p => match p.2, dVal b p.1 with | .int n, some (.int m) => decide (n = m) | _, _ => false) = true) :
    ∀ p ∈ xs, valV ys p.1 = some p.2 ∧ flatB p.2 = true := by
  revert h
  refine KR.cases (P := fun xs a => (a.all fun p => match p.2, dVal b p.1 with | .int n, some (.int m) => decide (n = m) | _, _ => false) = true → ∀ p ∈ xs, valV ys p.1 = some p.2 ∧ flatB p.2 = true) (fun _ p hp => nomatch hp) (fun k v d xs a h r ih hall p hp => ?_) ra
  rw [List.all_cons, Bool.and_eq_true] at hall
  rcases List.mem_cons.mp hp with e | e
  · subst e
    have h1 := hall.1
    dsimp only at h1
    split at h1
    · rename_i n m q1 q2
      rw [decide_eq_true_eq] at h1
      subst h1
      cases h
      obtain ⟨y, y1, y2⟩ := (rb.val k).1 _ q2
      cases y2
      exact ⟨y1, rfl⟩
    · cases h1
  · exact ih hall.2 p e
theorem sd_dcm {ne : Bool} {i j : Nat} {x y : Str} {p1 p2 : Pos} (hu : X.A.units < cLine) (hN : X.N[i]? = some x) (hv : Vis X.env.scope x) (hd : (x == ("__debug__" : Str)) = false) (hcd : (x == ("__classdict__" : Str)) = false)
    (hN2 : X.N[j]? = some y) (hv2 : Vis X.env.scope y) (hd2 : (y == ("__debug__" : Str)) = false) (hcd2 : (y == ("__classdict__" : Str)) = false) :
    PT X (.Compare (.Name x p1) [if ne = true then .NotEq else .Eq] [.Name y p2] pos) (tT c W (rDcm ne i j)) := by
  have core : ∀ {Z : Addr → Prop} {σ : Slots} {H : Hp} {S : FS} {Q : Bool → Hp → Prop}, Fr c Z σ H S → PostT c W Z σ H S (rDcm ne i j S) Q → ∃ v0 v1 a b ks ls, σ[i]? = some (some v0) ∧ σ[j]? = some (some v1) ∧ v0 = .ref a ∧ v1 = .ref b ∧ H a = some (.dK ks) ∧ H b = some (.dK ls) ∧ ks.length = ls.length ∧ (∀ p ∈ ks, valV ls p.1 = some p.2 ∧ flatB p.2 = true) ∧ Q (!ne) H := by
    intro Z σ H S Q fr h
    unfold rDcm at h
    split at h
    · rename_i a b q1 q2
      split at h
      · rename_i hs
        unfold dSame at hs
        rw [Bool.and_eq_true] at hs
        obtain ⟨l1, xs, w1, w2, w3⟩ := dk_at fr q1
        obtain ⟨l2, ys, u1, u2, u3⟩ := dk_at fr q2
        exact ⟨_, _, l1, l2, xs, ys, w1, u1, rfl, rfl, w2, u2, by rw [w3.length, u3.length]; exact beq_iff_eq.mp hs.1, kr_same u3 w3 hs.2, h H fr.step⟩
      · exact h.elim
    · exact h.elim
  cases ne with
  | true =>
    refine PT_imp (pt_cmpR (op_ne_dictA hu) (pe_slot hN hv hd hcd) (pe_slot hN2 hv2 hd2 hcd2) (nomark _)) fun σ H Q ⟨Z, S, fr, h⟩ => ?_
    obtain ⟨v0, v1, a, b, ks, ls, h1, h2, h3, h4, h5, h6, h7, h8, h9⟩ := core fr h
    exact ⟨v0, h1, v1, h2, a, b, ks, ls, h3, h4, h5, h6, h7, h8, _, rfl, h9⟩
  | false =>
    refine PT_imp (pt_cmpR (op_eq_dictA hu) (pe_slot hN hv hd hcd) (pe_slot hN2 hv2 hd2 hcd2) (nomark _)) fun σ H Q ⟨Z, S, fr, h⟩ => ?_
    obtain ⟨v0, v1, a, b, ks, ls, h1, h2, h3, h4, h5, h6, h7, h8, h9⟩ := core fr h
    exact ⟨v0, h1, v1, h2, a, b, ks, ls, h3, h4, h5, h6, h7, h8, _, rfl, h9⟩
def tIfT (tc ta tb : TT) : TT := fun σ H Q => tc σ H fun k H1 => if k = true then ta σ H1 Q else tb σ H1 Q
theorem pt_ifE {cd a b : Expr} {tc ta tb : TT} (hc : PT X cd tc) (ha : PT X a ta) (hb : PT X b tb) : PT X (.IfExp cd a b pos) (tIfT tc ta tb) := by
  refine ⟨fun pins s σ H Q I h => ?_⟩
  refine isTrue_IfExp (thn (hc.run pins s σ H _ I h) fun k s1 ⟨H1, I1, q1⟩ => ?_)
  cases k with
  | true => exact ha.run pins s1 σ H1 Q I1 q1
  | false => exact hb.run pins s1 σ H1 Q I1 q1
theorem sd_ifT {cd : Expr} (hc : PT X cd (tT c W t)) (ha : PT X a (tT c W f)) (hb : PT X b (tT c W g)) : PT X (.IfExp cd a b pos) (tT c W (rIfT t f g)) := by
  refine PT_imp (pt_ifE hc ha hb) fun σ H Q ⟨Z, S, fr, h⟩ => ?_
  refine tT_bind (post := fun r => PostT c W Z σ H S r Q) fr h (fun _ _ h => h) id fun x S1 h1 H1 g1 => ?_
  cases x with
  | true => exact ⟨Z, S1, g1.fr, PostT.after g1 h1⟩
  | false => exact ⟨Z, S1, g1.fr, PostT.after g1 h1⟩
end
end FL

set_option maxRecDepth 100000
set_option maxHeartbeats 2000000
/-! zip of a tuple and a list -/
namespace FL
open PySem PySem.Spec PyProof.Rows L2
open PySem.Sem (wp)
/-- what an iterator at i over the object at l gives, turn by turn -/
structure Gn (prog : Program) (w : World) (i l : Addr) (St : Nat → Heap → Prop) (gv : Nat → Option Value) : Prop where
  item : ∀ {A : Around} {E : Value → Shared → Prop} {Q : Value → Shared → Prop} {s : Shared} {k : Nat} {x : Value}, St k s.heap → gv k = some x →
    (∀ h', St (k + 1) h' → Heap.SameBut i s.heap h' → Q x { s with heap := h' }) → wpAny (model prog w) A (Builtin.SmallTypes.nextOf (.ref i)) Q E s
  stop : ∀ {A : Around} {E : Value → Shared → Prop} {Q : Value → Shared → Prop} {s : Shared} {k : Nat}, A.handled = none → St k s.heap → gv k = none →
    (∀ h' e, Heap.ExtBut i s.heap h' → (∃ o, h'.get? e = some o ∧ o.cls = .type "StopIteration") → E (.ref e) { s with heap := h' }) → wpAny (model prog w) A (Builtin.SmallTypes.nextOf (.ref i)) Q E s
  keep : ∀ {k : Nat} {h h' : Heap}, St k h → (∀ c o, c = i ∨ c = l → h.get? c = some o → h'.get? c = some o) → St k h'
abbrev GT (i l : Addr) (xs : Array Value) (k : Nat) (h : Heap) : Prop := h.IsTupleIter i l k ∧ h.IsTuple l xs
abbrev GL (i l : Addr) (xs : Array Value) (k : Nat) (h : Heap) : Prop := h.IsListIter i l k ∧ h.IsList l xs
theorem gnT {prog : Program} {w : World} {i l : Addr} {xs : Array Value} (hil : l ≠ i) : Gn prog w i l (GT i l xs) (fun k => xs[k]?) where
  item := fun hs hx hQ => RZ.nextOf_tuple_item hs.1 hs.2 hx fun h' q sb => hQ h' ⟨q, hs.2.extBut sb.extBut hil⟩ sb
  stop := fun hh hs hx hE => RZ.nextOf_tuple_end hh hs.1 hs.2 hx hE
  keep := fun ⟨a, o, ho, r⟩ g => ⟨a.at fun o q => g _ o (.inl rfl) q, o, g _ o (.inr rfl) ho, r⟩
theorem gnL {prog : Program} {w : World} {i l : Addr} {xs : Array Value} (hil : l ≠ i) : Gn prog w i l (GL i l xs) (fun k => xs[k]?) where
  item := fun hs hx hQ => wpAny_nextOf_list_item hs.1 hs.2 hx fun h' q sb => hQ h' ⟨q, hs.2.extBut sb.extBut hil⟩ sb
  stop := fun hh hs hx hE => wpAny_nextOf_list_end hh hs.1 hs.2 hx hE
  keep := fun ⟨a, o, ho, r⟩ g => ⟨a.at fun o q => g _ o (.inl rfl) q, o, g _ o (.inr rfl) ho, r⟩
theorem Gn.off {prog : Program} {w : World} {i l j : Addr} {St : Nat → Heap → Prop} {gv : Nat → Option Value} {k : Nat} {h h' : Heap} (g : Gn prog w i l St gv) (hs : St k h) (hi : i ≠ j) (hl : l ≠ j) (sb : Heap.SameBut j h h') : St k h' :=
  g.keep hs fun c o hc e => sb.extBut _ _ (by rcases hc with q | q <;> rw [q] <;> assumption) e
section
variable {prog : Program} {w : World} {A : Around} {E : Value → Shared → Prop} {s : Shared} {z TI TO i1 i2 l1 l2 : Addr} {k1 k2 : Nat} {S1 S2 : Nat → Heap → Prop} {g1 g2 : Nat → Option Value} {a b x y : Value}
theorem zg_item {Q : Value → Shared → Prop} (D : ZipApart z TI TO i1 i2 l1 l2) (w1 : Gn prog w i1 l1 S1 g1) (w2 : Gn prog w i2 l2 S2 g2)
    (iz : IsZip s.heap z TI TO .none) (ip : IsPair s.heap TI (.ref i1) (.ref i2)) (io : IsPair s.heap TO a b) (t1 : S1 k1 s.heap) (t2 : S2 k2 s.heap) (e1 : g1 k1 = some x) (e2 : g2 k2 = some y)
    (go : ∀ h', IsZip h' z TI TO (rawInt s.heap.objs.size) → IsPair h' TO x y → S1 (k1 + 1) h' → S2 (k2 + 1) h' → IsPair h' s.heap.objs.size x y → h'.objs.size = s.heap.objs.size + 1 →
      (∀ c o, c ≠ z → c ≠ TO → c ≠ i1 → c ≠ i2 → s.heap.get? c = some o → h'.get? c = some o) → Q (.ref s.heap.objs.size) { s with heap := h' }) :
    wpAny (model prog w) A (Builtin.«zip.__next__» ⟨[.ref z], []⟩) (fun fin s' => ∃ v, fin = .done (.ret v) ∧ Q v s') E s := by
  refine wpAny_bind (m := field (.ref z) 2) (wpAny_field iz rfl (x := .bool false) rfl ?_)
  refine wpAny_bind (m := field (.ref z) 3) (wpAny_field iz rfl (x := .ref TI) rfl ?_)
  refine wpAny_bind (wpAny_seqItems ip rfl ?_)
  refine wpAny_bind (m := Builtin.SmallTypes.ownedTupleIsFree (.ref z)) ?_
  unfold Builtin.SmallTypes.ownedTupleIsFree
  refine wpAny_bind (wpAny_field iz rfl (x := .none) rfl (wpAny_pure ?_))
  rw [if_pos rfl]
  refine wpAny_bind (wpAny_rule (wpAny_bind (wpAny_field iz rfl (x := .ref TO) rfl (wpAny_bind (wpAny_setField_rec iz (by simp) fun ha iza sa => wpAny_bind ?_)))))
  have iza : IsZip ha z TI TO .ellipsis := iza
  simp only [List.zipIdx_cons, List.zipIdx_nil, List.forIn_cons, List.forIn_nil]
  refine wpAny_bind (wpAny_bind (wpAny_onRaise (wpAny_bind (m := Builtin.SmallTypes.nextOf (.ref i1)) (w1.item (w1.off t1 D.i1z D.l1z sa) e1 fun hb u1 sb => wpAny_pure ?_))))
  have iob : IsPair hb TO a b := sb.extBut _ _ D.TOi1 (sa.extBut _ _ D.TOz io)
  refine wpAny_bind (wpAny_seqItems iob rfl (wpAny_bind (wpAny_updateSeq_pair iob fun hc ioc sc => wpAny_bind (wpAny_letGo (wpAny_pure ?_)))))
  have ioc : IsPair hc TO x b := ioc
  have tc : S2 k2 hc := w2.off (w2.off (w2.off t2 D.i2z D.l2z sa) D.i12.symm D.l2i1 sb) D.TOi2.symm D.l2TO sc
  refine wpAny_bind (wpAny_bind (wpAny_onRaise (wpAny_bind (m := Builtin.SmallTypes.nextOf (.ref i2)) (w2.item tc e2 fun hd u2 sd => wpAny_pure ?_))))
  have iod : IsPair hd TO x b := sd.extBut _ _ D.TOi2 ioc
  refine wpAny_bind (wpAny_seqItems iod rfl (wpAny_bind (wpAny_updateSeq_pair iod fun he ioe se => wpAny_bind (wpAny_letGo (wpAny_pure (wpAny_pure ?_))))))
  have ioe : IsPair he TO x y := ioe
  have size : he.objs.size = s.heap.objs.size := by rw [se.1, sd.1, sc.1, sb.1, sa.1]
  have ize : IsZip he z TI TO .ellipsis := se.extBut _ _ D.TOz.symm (sd.extBut _ _ D.i2z.symm (sc.extBut _ _ D.TOz.symm (sb.extBut _ _ D.i1z.symm iza)))
  have far : ∀ c o, c ≠ z → c ≠ TO → c ≠ i1 → c ≠ i2 → s.heap.get? c = some o → he.get? c = some o := fun c o n1 n2 n3 n4 e =>
    se.extBut _ _ n2 (sd.extBut _ _ n4 (sc.extBut _ _ n2 (sb.extBut _ _ n3 (sa.extBut _ _ n1 e))))
  have v1 : S1 (k1 + 1) he := w1.off (w1.off (w1.off u1 D.TOi1.symm D.l1TO sc) D.i12 D.l1i2 sd) D.TOi1.symm D.l1TO se
  have v2 : S2 (k2 + 1) he := w2.off u2 D.TOi2.symm D.l2TO se
  have zlt : z < he.objs.size := Heap.lt_size ize
  refine wpAny_bind (wpAny_seqItems ioe rfl (wpAny_bind (wpAny_newTuple ?_)))
  refine wpAny_bind (m := Builtin.SmallTypes.ownedTupleHandOut (.ref z) (.ref he.objs.size)) ?_
  unfold Builtin.SmallTypes.ownedTupleHandOut
  have izf : IsZip (he.push { cls := .type "tuple", data := .seq #[x, y] }) z TI TO .ellipsis := Heap.get?_push_of_some _ ize
  refine wpAny_bind (wpAny_setField_rec izf (by simp) fun hg izg sg => ?_)
  have izg : IsZip hg z TI TO (rawInt he.objs.size) := izg
  refine wpAny_setField_rec izg (by simp) fun hh izh sh => wpAny_pure ⟨_, rfl, ?_⟩
  have izh : IsZip hh z TI TO (rawInt he.objs.size) := izh
  have up : ∀ c o, c ≠ z → he.get? c = some o → hh.get? c = some o := fun c o n e => sh.extBut _ _ n (sg.extBut _ _ n (Heap.get?_push_of_some _ e))
  have new : IsPair hh he.objs.size x y := sh.extBut _ _ (Nat.ne_of_gt zlt) (sg.extBut _ _ (Nat.ne_of_gt zlt) (Heap.get?_push_size _ rfl))
  have size2 : hh.objs.size = he.objs.size + 1 := by rw [sh.1, sg.1, Heap.size_push]
  rw [size] at izh new size2
  show Q (.ref he.objs.size) _
  rw [size]
  refine go hh izh (up _ _ D.TOz ioe) (w1.keep v1 fun c o hc e => up c o ?_ e) (w2.keep v2 fun c o hc e => up c o ?_ e) new size2 fun c o n1 n2 n3 n4 e => up c o n1 (far c o n1 n2 n3 n4 e)
  · rcases hc with q | q <;> rw [q]
    · exact D.i1z
    · exact D.l1z
  · rcases hc with q | q <;> rw [q]
    · exact D.i2z
    · exact D.l2z
theorem zg_stop {Q : Fin → Shared → Prop} (hn : A.handled = none) (D : ZipApart z TI TO i1 i2 l1 l2) (w1 : Gn prog w i1 l1 S1 g1) (w2 : Gn prog w i2 l2 S2 g2)
    (iz : IsZip s.heap z TI TO .none) (ip : IsPair s.heap TI (.ref i1) (.ref i2)) (io : IsPair s.heap TO a b) (t1 : S1 k1 s.heap) (t2 : S2 k2 s.heap) (no : g1 k1 = none ∨ g2 k2 = none)
    (go : ∀ h' e, (∀ c o, c ≠ z → c ≠ TO → c ≠ i1 → c ≠ i2 → s.heap.get? c = some o → h'.get? c = some o) → (∃ o, h'.get? e = some o ∧ o.cls = .type "StopIteration") → E (.ref e) { s with heap := h' }) :
    wpAny (model prog w) A (Builtin.«zip.__next__» ⟨[.ref z], []⟩) Q E s := by
  refine wpAny_bind (m := field (.ref z) 2) (wpAny_field iz rfl (x := .bool false) rfl ?_)
  refine wpAny_bind (m := field (.ref z) 3) (wpAny_field iz rfl (x := .ref TI) rfl ?_)
  refine wpAny_bind (wpAny_seqItems ip rfl ?_)
  refine wpAny_bind (m := Builtin.SmallTypes.ownedTupleIsFree (.ref z)) ?_
  unfold Builtin.SmallTypes.ownedTupleIsFree
  refine wpAny_bind (wpAny_field iz rfl (x := .none) rfl (wpAny_pure ?_))
  rw [if_pos rfl]
  refine wpAny_bind (wpAny_rule (wpAny_bind (wpAny_field iz rfl (x := .ref TO) rfl (wpAny_bind (wpAny_setField_rec iz (by simp) fun ha iza sa => wpAny_bind ?_)))))
  have iza : IsZip ha z TI TO .ellipsis := iza
  simp only [List.zipIdx_cons, List.zipIdx_nil, List.forIn_cons, List.forIn_nil]
  have end_ : ∀ (hb : Heap) (e : Addr), IsZip hb z TI TO .ellipsis → (∃ o, hb.get? e = some o ∧ o.cls = .type "StopIteration") → e ≠ z := fun hb e q ⟨o, r, c⟩ n => by
    rw [n] at r
    have := q.symm.trans r
    cases this
    simp at c
  cases e1 : g1 k1 with
  | none =>
    refine wpAny_bind (wpAny_bind (wpAny_onRaise (wpAny_bind (m := Builtin.SmallTypes.nextOf (.ref i1)) (w1.stop hn (w1.off t1 D.i1z D.l1z sa) e1 fun hb e sb he => ?_))))
    have izb : IsZip hb z TI TO .ellipsis := sb _ _ D.i1z.symm iza
    have ne := end_ hb e izb he
    obtain ⟨o, r, c⟩ := he
    exact wpAny_setField_rec izb (by simp) fun hc _ sc => go hc e (fun c o n1 _ n3 _ q => sc.extBut _ _ n1 (sb _ _ n3 (sa.extBut _ _ n1 q))) ⟨o, sc.extBut _ _ ne r, c⟩
  | some x =>
    have e2 : g2 k2 = none := no.resolve_left (by rw [e1]; simp)
    refine wpAny_bind (wpAny_bind (wpAny_onRaise (wpAny_bind (m := Builtin.SmallTypes.nextOf (.ref i1)) (w1.item (w1.off t1 D.i1z D.l1z sa) e1 fun hb u1 sb => wpAny_pure ?_))))
    have iob : IsPair hb TO a b := sb.extBut _ _ D.TOi1 (sa.extBut _ _ D.TOz io)
    refine wpAny_bind (wpAny_seqItems iob rfl (wpAny_bind (wpAny_updateSeq_pair iob fun hc ioc sc => wpAny_bind (wpAny_letGo (wpAny_pure ?_)))))
    have tc : S2 k2 hc := w2.off (w2.off (w2.off t2 D.i2z D.l2z sa) D.i12.symm D.l2i1 sb) D.TOi2.symm D.l2TO sc
    refine wpAny_bind (wpAny_bind (wpAny_onRaise (wpAny_bind (m := Builtin.SmallTypes.nextOf (.ref i2)) (w2.stop hn tc e2 fun hd e sd he => ?_))))
    have izd : IsZip hd z TI TO .ellipsis := sd _ _ D.i2z.symm (sc.extBut _ _ D.TOz.symm (sb.extBut _ _ D.i1z.symm iza))
    have ne := end_ hd e izd he
    obtain ⟨o, r, c⟩ := he
    exact wpAny_setField_rec izd (by simp) fun he _ se => go he e (fun c o n1 n2 n3 n4 q => se.extBut _ _ n1 (sd _ _ n4 (sc.extBut _ _ n2 (sb.extBut _ _ n3 (sa.extBut _ _ n1 q))))) ⟨o, se.extBut _ _ ne r, c⟩
theorem zg_next {Q : Option Value → Shared → Prop} (D : ZipApart z TI TO i1 i2 l1 l2) (w1 : Gn prog w i1 l1 S1 g1) (w2 : Gn prog w i2 l2 S2 g2)
    (iz : IsZip s.heap z TI TO .none) (ip : IsPair s.heap TI (.ref i1) (.ref i2)) (io : IsPair s.heap TO a b) (t1 : S1 k1 s.heap) (t2 : S2 k2 s.heap) (e1 : g1 k1 = some x) (e2 : g2 k2 = some y)
    (go : ∀ h', IsZip h' z TI TO (rawInt s.heap.objs.size) → IsPair h' TO x y → S1 (k1 + 1) h' → S2 (k2 + 1) h' → IsPair h' s.heap.objs.size x y → h'.objs.size = s.heap.objs.size + 1 →
      (∀ c o, c ≠ z → c ≠ TO → c ≠ i1 → c ≠ i2 → s.heap.get? c = some o → h'.get? c = some o) → Q (some (.ref s.heap.objs.size)) { s with heap := h' }) :
    wpAny (model prog w) A (pyNext (.ref z)) Q E s := by
  have ty : s.TypeIs (.ref z) "zip" := ⟨_, iz, rfl⟩
  unfold pyNext
  refine wpAny_bind (wpAny_attempt (wpAny_callSpecial?_slot (name := Str.ofString "__next__") ty F.slot_zip_next (wpAny_call_entry F.slot_zip_next ty F.entry_zip_next ?_ (F.args_zip_next_1 _))))
  exact zg_item D w1 w2 iz ip io t1 t2 e1 e2 fun h' c1 c2 c3 c4 c5 c6 c7 => wpAny_pure (go h' c1 c2 c3 c4 c5 c6 c7)
theorem zg_last {Q : Option Value → Shared → Prop} (hn : A.handled = none) (D : ZipApart z TI TO i1 i2 l1 l2) (w1 : Gn prog w i1 l1 S1 g1) (w2 : Gn prog w i2 l2 S2 g2)
    (iz : IsZip s.heap z TI TO .none) (ip : IsPair s.heap TI (.ref i1) (.ref i2)) (io : IsPair s.heap TO a b) (t1 : S1 k1 s.heap) (t2 : S2 k2 s.heap) (no : g1 k1 = none ∨ g2 k2 = none)
    (go : ∀ h', (∀ c o, c ≠ z → c ≠ TO → c ≠ i1 → c ≠ i2 → s.heap.get? c = some o → h'.get? c = some o) → Q none { s with heap := h' }) : wpAny (model prog w) A (pyNext (.ref z)) Q E s := by
  have ty : s.TypeIs (.ref z) "zip" := ⟨_, iz, rfl⟩
  unfold pyNext
  refine wpAny_bind (wpAny_attempt (wpAny_callSpecial?_slot (name := Str.ofString "__next__") ty F.slot_zip_next (wpAny_call_entry F.slot_zip_next ty F.entry_zip_next ?_ (F.args_zip_next_1 _))))
  exact zg_stop hn D w1 w2 iz ip io t1 t2 no fun h' e k ⟨o, r, c⟩ => wpAny_bind (wpAny_isInstance (T := "StopIteration") (b := true) ⟨o, r, c⟩ isSubtype_stop (wpAny_pure (go h' k)))
end
/-! ### a new one -/
def laid (T : String) (l : Addr) : Obj := { cls := .type T, data := .fields #[.ref l, .int 0 0] }
abbrev mh2 (h : Heap) (l1 l2 : Addr) : Heap := (h.push (laid "tuple_iterator" l1)).push (laid "list_iterator" l2)
abbrev mh3 (h : Heap) (l1 l2 : Addr) : Heap := (mh2 h l1 l2).push { cls := .type "tuple", data := .seq #[.ref h.objs.size, .ref (h.push (laid "tuple_iterator" l1)).objs.size] }
abbrev mh4 (h : Heap) (l1 l2 : Addr) : Heap := (mh3 h l1 l2).push { cls := .type "tuple", data := .seq #[.none, .none] }
abbrev mh5 (h : Heap) (l1 l2 : Addr) : Heap := (mh4 h l1 l2).push { cls := .type "zip", data := .fields #[.none, .bool false, .bool false, .ref (mh2 h l1 l2).objs.size, .ref (mh3 h l1 l2).objs.size] }
theorem meets_mix (l1 l2 : Addr) (xs ys : Array Value) :
    Meets (Builtin.«zip.__new__» ⟨[.type "zip", .ref l1, .ref l2], []⟩) (fun _ R s => s.heap.IsTuple l1 xs ∧ s.heap.IsList l2 ys ∧ R (.ok (.ret (.ref (mh4 s.heap l1 l2).objs.size))) { s with heap := mh5 s.heap l1 l2 }) :=
  .of_wp fun prog w A R s h => by
    obtain ⟨hp, g, d, tk, os⟩ := s
    obtain ⟨q1, q2, h⟩ := h
    have sub := sub_zip
    have q1 : Heap.IsTuple (Shared.heap ⟨hp, g, d, tk, os⟩) l1 xs := q1
    have q2 : Heap.IsList (Shared.heap ⟨hp.push { cls := .type "tuple_iterator", data := .fields #[.ref l1, .int 0 0] }, g, d, tk, os⟩) l2 ys := Heap.IsList.push q2 _
    wp_walk using wpAny_pyIter_tuple q1, wpAny_pyIter_list q2
    exact ⟨_, rfl, h⟩
section
variable {prog : Program} {w : World} {A : Around} {E : Value → Shared → Prop} {s : Shared}
theorem call_mix {l1 l2 : Addr} {xs ys : Array Value} {Q : Value → Shared → Prop} (q1 : s.heap.IsTuple l1 xs) (q2 : s.heap.IsList l2 ys)
    (go : ∀ h', IsZip h' (s.heap.objs.size + 4) (s.heap.objs.size + 2) (s.heap.objs.size + 3) .none → IsPair h' (s.heap.objs.size + 2) (.ref s.heap.objs.size) (.ref (s.heap.objs.size + 1)) →
      IsPair h' (s.heap.objs.size + 3) .none .none → h'.IsTupleIter s.heap.objs.size l1 0 → h'.IsListIter (s.heap.objs.size + 1) l2 0 → (∀ c o, s.heap.get? c = some o → h'.get? c = some o) → Q (.ref (s.heap.objs.size + 4)) { s with heap := h' }) :
    wpAny (model prog w) A (call (.type "zip") [.ref l1, .ref l2]) Q E s := by
  refine callType_new F.called_zip (by decide) (F.typeCall_zip_2 _ _) (F.newCall_zip_2 _ _) (fun obj => F.args_object_init_3 obj _ _) F.entry_zip_new (meets_mix l1 l2 xs ys) ⟨q1, q2, ?_⟩
  have n1 : (s.heap.push (laid "tuple_iterator" l1)).objs.size = s.heap.objs.size + 1 := Heap.size_push ..
  have n2 : (mh2 s.heap l1 l2).objs.size = s.heap.objs.size + 2 := by rw [Heap.size_push, n1]
  have n3 : (mh3 s.heap l1 l2).objs.size = s.heap.objs.size + 3 := by rw [Heap.size_push, n2]
  have n4 : (mh4 s.heap l1 l2).objs.size = s.heap.objs.size + 4 := by rw [Heap.size_push, n3]
  have up {h : Heap} {c : Addr} {o o2 : Obj} (e : h.get? c = some o) : (h.push o2).get? c = some o := Heap.get?_push_of_some _ e
  have f5 : (mh5 s.heap l1 l2).get? (mh4 s.heap l1 l2).objs.size = some _ := Heap.get?_push_size _ rfl
  have f4 : (mh5 s.heap l1 l2).get? (mh3 s.heap l1 l2).objs.size = some _ := up (Heap.get?_push_size _ rfl)
  have f3 : (mh5 s.heap l1 l2).get? (mh2 s.heap l1 l2).objs.size = some _ := up (up (Heap.get?_push_size _ rfl))
  have f2 : (mh5 s.heap l1 l2).get? (s.heap.push (laid "tuple_iterator" l1)).objs.size = some _ := up (up (up (Heap.get?_push_size _ rfl)))
  have f1 : (mh5 s.heap l1 l2).get? s.heap.objs.size = some _ := up (up (up (up (Heap.get?_push_size _ rfl))))
  show _ ∧ _
  rw [n2, n3, n4] at f5
  rw [n1, n2] at f3
  rw [n3] at f4
  rw [n1] at f2
  rw [n4]
  exact ⟨⟨_, f5, rfl⟩, go _ f5 f3 f4 ⟨_, f1, rfl, rfl⟩ ⟨_, f2, rfl, rfl⟩ fun c o e => up (up (up (up (up e))))⟩
end
/-! ### walked -/
/-- the tuple at a and the list at b, turn by turn, in new pairs -/
def ItzM (K : PySem.W.Frag) (a b : Addr) : It :=
  ⟨fun i H => ∃ (xs ys : List V) (x y : V), SqT K H a xs ∧ SqL K H b ys ∧ xs[i]? = some x ∧ ys[i]? = some y,
    fun i H v H' => ∃ T x y, v = .ref T ∧ H T = none ∧ H' = upd H T (.tup [x, y]) ∧ (∀ xs, SqT K H a xs → xs[i]? = some x) ∧ ∀ ys, SqL K H b ys → ys[i]? = some y,
    fun i H => ∃ xs ys : List V, SqT K H a xs ∧ SqL K H b ys ∧ (xs.length ≤ i ∨ ys.length ≤ i)⟩
theorem turn_mix {P : Program} {w : World} {K : PySem.W.Frag} {elts : List Expr} {kk : Nat} {tpos : Pos} {a b z TI TO i1 i2 : Addr} (D : ZipApart z TI TO i1 i2 a b) :
    Turn P w K (.Tuple elts kk tpos) (ItzM K a b) [z, TI, TO, i1, i2] z (fun i h => IsZip h z TI TO .none ∧ IsPair h TI (.ref i1) (.ref i2) ∧ (∃ x y, IsPair h TO x y) ∧ h.IsTupleIter i1 a i ∧ h.IsListIter i2 b i) where
  mem := by simp
  obj := fun i h st c hc => by
    obtain ⟨p1, p2, ⟨x, y, p3⟩, ⟨o1, e1, _, d1⟩, ⟨o2, e2, _, d2⟩⟩ := st
    simp only [List.mem_cons, List.not_mem_nil, or_false] at hc
    rcases hc with q | q | q | q | q <;> subst q
    · exact ⟨_, p1, fun v q => nomatch q⟩
    · exact ⟨_, p2, fun v q => nomatch q⟩
    · exact ⟨_, p3, fun v q => nomatch q⟩
    · exact ⟨o1, e1, fun v q => by rw [d1] at q; cases q⟩
    · exact ⟨o2, e2, fun v q => by rw [d2] at q; cases q⟩
  keep := fun i h h' ⟨p1, p2, ⟨x, y, p3⟩, p4, p5⟩ k => ⟨k z (by simp) _ p1, k TI (by simp) _ p2, ⟨x, y, k TO (by simp) _ p3⟩, p4.at fun o q => k i1 (by simp) o q, p5.at fun o q => k i2 (by simp) o q⟩
  item := by
    intro X hP hw hK hc i pins s σ H E I hf st hg
    subst hP hw hK
    obtain ⟨p1, p2, ⟨x0, y0, p3⟩, p4, p5⟩ := st
    obtain ⟨xs, ys, x, y, sx, sy, gx, gy⟩ := hg
    obtain ⟨us, ru, q1, _⟩ := I.tuple sx
    obtain ⟨vs, rv, q2, _⟩ := I.list sy
    obtain ⟨u, hu, r1⟩ := ru.get gx
    obtain ⟨v, hv, r2⟩ := rv.get gy
    have q1 : s.heap.IsTuple a us.toArray := q1
    have zl : z < s.heap.objs.size := Heap.lt_size p1
    refine zg_next D (gnT (xs := us.toArray) D.l1i1) (gnL (xs := vs.toArray) D.l2i2) p1 p2 p3 ⟨p4, q1⟩ ⟨p5, q2.isList⟩ (x := u) (y := v) (by simpa using hu) (by simpa using hv) fun h' z1 o1 c1 c2 new size far => ?_
    refine ⟨_, rfl, wpAny_letOwnedTupleGo_zip (s := { s with heap := h' }) z1 fun h2 z2 sb => ?_⟩
    have new2 : h2.get? s.heap.objs.size = some { cls := .type "tuple", data := .seq #[u, v] } := (sb.2 _ (Nat.ne_of_gt zl)).trans new
    have obj : ObjOk X.prog X.w (upd H s.heap.objs.size (.tup [x, y])) h2 s.heap.objs.size (.tup [x, y]) := ⟨by show 2 ≤ sizeLine; decide, [u, v], .cons r1 (.cons r2 .nil), ⟨_, new2, rfl, _, rfl⟩⟩
    have I1 : Inv X pins σ (upd H s.heap.objs.size (.tup [x, y])) { s with heap := h2 } := I.turnedNew (t' := s.toks) (ch := [z, TI, TO, i1, i2]) (fun c o n q => by
      simp only [List.mem_cons, List.not_mem_nil, or_false, not_or] at n
      exact (sb.2 c n.1).trans (far c o n.1 n.2.2.1 n.2.2.2.1 n.2.2.2.2 q)) hf (Nat.le_refl _) obj
    refine ⟨.ref s.heap.objs.size, _, I1, rfl, ⟨_, x, y, rfl, I.hok.fresh (Nat.le_refl _), rfl, fun l hl => by rw [I.tuple_inj hl sx]; exact gx, fun l hl => by rw [I.list_inj hl sy]; exact gy⟩, ⟨z2, ?_, ⟨u, v, ?_⟩, ?_, ?_⟩, fun c hcm => ?_⟩
    · exact (sb.2 _ D.TIz).trans (far _ _ D.TIz D.TITO D.TIi1 D.TIi2 p2)
    · exact (sb.2 _ D.TOz).trans o1
    · exact c1.1.at fun o q => (sb.2 _ D.i1z).trans q
    · exact c2.1.at fun o q => (sb.2 _ D.i2z).trans q
    · have lt : c < s.heap.objs.size := by
        simp only [List.mem_cons, List.not_mem_nil, or_false] at hcm
        rcases hcm with q | q | q | q | q <;> subst q
        · exact zl
        · exact Heap.lt_size p2
        · exact Heap.lt_size p3
        · obtain ⟨_, e, _⟩ := p4; exact Heap.lt_size e
        · obtain ⟨_, e, _⟩ := p5; exact Heap.lt_size e
      rw [upd_ne (Nat.ne_of_lt lt)]
      exact (hf c hcm).1
  done := by
    intro X hP hw hK hc i pins s σ H E I hf st hg
    subst hP hw hK
    obtain ⟨p1, p2, ⟨x0, y0, p3⟩, p4, p5⟩ := st
    obtain ⟨xs, ys, sx, sy, no⟩ := hg
    obtain ⟨us, ru, q1, _⟩ := I.tuple sx
    obtain ⟨vs, rv, q2, _⟩ := I.list sy
    have n1 := ru.length
    have n2 := rv.length
    have q1 : s.heap.IsTuple a us.toArray := q1
    refine zg_last (I.ok.hd hc) D (gnT (xs := us.toArray) D.l1i1) (gnL (xs := vs.toArray) D.l2i2) p1 p2 p3 ⟨p4, q1⟩ ⟨p5, q2.isList⟩ ?_ fun h' far => ⟨rfl, I.turnedL (t' := s.toks) (ch := [z, TI, TO, i1, i2]) (fun c o n q => ?_) hf⟩
    · rcases no with n | n
      · exact .inl (by simp; omega)
      · exact .inr (by simp; omega)
    · simp only [List.mem_cons, List.not_mem_nil, or_false, not_or] at n
      exact far c o n.1 n.2.2.1 n.2.2.2.1 n.2.2.2.2 q
  self := fun A i s Q E st h => wpAny_pyIter_zip st.1 h
def iMix (K : PySem.W.Frag) (ta : TA) : TI := fun σ H R => ta σ H fun vs H1 => ∃ a b xs ys, vs = [.ref a, .ref b] ∧ SqT K H1 a xs ∧ SqL K H1 b ys ∧ R (ItzM K a b) H1
theorem pi_mix {X : Cx} {e e2 : Expr} {ta : TA} {p pos tpos : Pos} {elts : List Expr} {kk : Nat} (hg : Gl X "zip") (hm : X.mg "zip" = none) (ha : PA X [e, e2] ta)
    (hs : starEach [e, e2] X.env = (false, eval e X.env) :: starEach [e2] X.env := by rfl) (hpl : (backTo pos (starEach [e2] X.env)).any (·.1) = false := by rfl) :
    PI X (.Tuple elts kk tpos) (.Call (.Name "zip" p) [e, e2] [] pos) (iMix X.K ta) := by
  refine ⟨fun pins s σ H R I h => ?_⟩
  refine Call_ (ld_blt I hg hm PyProof.Rows.boot_zip (PyProof.Rows.callWith_type1 (thn (ha.run pos pins s σ H _ I h) fun us s1 ⟨vs, H1, I1, r1, q1⟩ => ?_) hs hpl))
  obtain ⟨a, b, xs, ys, rfl, sx, sy, q⟩ := q1
  cases r1 with
  | cons r rr =>
    cases rr with
    | cons r' rr =>
      cases rr
      cases r
      cases r'
      obtain ⟨us, ru, p1, _⟩ := I1.tuple sx
      obtain ⟨ws, rw_, p2, _⟩ := I1.list sy
      obtain ⟨o1, f1, _⟩ := id p1
      refine call_mix (show s1.heap.IsTuple a us.toArray from p1) p2.isList fun h' c1 c2 c3 c4 c5 far => wpAny_pyIter_zip c1 ?_
      refine ⟨s1.heap.objs.size + 4, [s1.heap.objs.size + 4, s1.heap.objs.size + 2, s1.heap.objs.size + 3, s1.heap.objs.size, s1.heap.objs.size + 1], _, _, H1, rfl, I1.kept (t' := s1.toks) far, turn_mix (PySem.W.ktu_apart s1.heap.objs.size a b (Heap.lt_size f1) p2.lt), ⟨c1, c2, ⟨_, _, c3⟩, c4, c5⟩, fun c hc => ?_, q⟩
      have le : s1.heap.objs.size ≤ c := by
        simp only [List.mem_cons, List.not_mem_nil, or_false] at hc
        rcases hc with q | q | q | q | q <;> subst q <;> first | exact Nat.le_add_right _ _ | exact Nat.le_refl _
      exact I1.fpOk le (I1.hok.fresh le)
/-! ### as an operator -/
def iZm (fs : FA) : FI := fun S => (fs S).bind fun xs S1 => match pks S1 xs with
  | some [.tup ds, .lst es] => .ok (xs, [.tup ds, .lst es], zipD ds es) S1
  | _ => .no
section
variable {K : PySem.W.Frag} {ds es : List D}
theorem walk_mix {a b : Addr} : Walk K (ItzM K a b) [.ref a, .ref b] [.tup ds, .lst es] (zipD ds es) := by
  have both : ∀ {H O}, Vws K H O [.ref a, .ref b] [.tup ds, .lst es] → ∃ xs ys, SqT K H a xs ∧ Rps K H O xs ds ∧ SqL K H b ys ∧ Rps K H O ys es := fun h => by
    obtain ⟨v, u, e, h1, h2⟩ := h.two
    cases e
    obtain ⟨_, xs, e1, s, r, _⟩ := h1.tup
    obtain ⟨_, ys, e2, s2, r2⟩ := h2.lst
    cases e1; cases e2
    exact ⟨xs, ys, s, r, s2, r2⟩
  refine ⟨fun H O i h hi => ?_, fun H O i x H' d h hd y => ?_, fun H O h => ?_⟩
  · obtain ⟨xs, ys, s, r, s2, r2⟩ := both h
    rw [zipD_len] at hi
    obtain ⟨u, g1, _⟩ := r.get (List.getElem?_eq_getElem (show i < ds.length by omega))
    obtain ⟨u2, g2, _⟩ := r2.get (List.getElem?_eq_getElem (show i < es.length by omega))
    exact ⟨xs, ys, u, u2, s, s2, g1, g2⟩
  · obtain ⟨xs, ys, s, r, s2, r2⟩ := both h
    obtain ⟨p, q, g1, g2, rfl⟩ := zipD_get _ _ _ _ hd
    obtain ⟨u, f1, v1⟩ := r.get g1
    obtain ⟨u2, f2, v2⟩ := r2.get g2
    obtain ⟨T, x0, y0, rfl, hT, rfl, y1, y2⟩ := y
    have e1 := (y1 xs s).symm.trans f1
    cases e1
    have e2 := (y2 ys s2).symm.trans f2
    cases e2
    exact .inr ⟨T, _, _, rfl, hT, rfl, rfl, .cons v1 (.cons v2 .nil)⟩
  · obtain ⟨xs, ys, s, r, s2, r2⟩ := both h
    exact ⟨xs, ys, s, s2, by rw [r.length, r2.length, zipD_len]; omega⟩
end
section
variable {X : Cx} {c : FCx} {W : WX} {a b : Expr} {fs : FA} {p pos tpos : Pos} {elts : List Expr} {kk : Nat}
theorem sd_iZm (hK : c.K = X.K) (gl : Gl X "zip") (mg : X.mg "zip" = none) (ha : PA X [a, b] (tA c W fs)) (hn : NS a) (hn2 : NS b) : PI X (.Tuple elts kk tpos) (.Call (.Name "zip" p) [a, b] [] pos) (tI c W (iZm fs)) := by
  refine PI_imp (pi_mix gl mg ha (star_cons hn) (star_none fun e he => by simp at he; subst he; exact hn2)) fun σ H Q ⟨Z, S, fr, h⟩ => ?_
  refine tI_bindA fr h fun xs S1 h1 vs H1 g1 => ?_
  split at h1
  · rename_i ds es q1
    obtain ⟨v, u, rfl, w, w2⟩ := (pks_vws g1.step.fr g1.ar q1).two
    obtain ⟨l, ls, rfl, s, r, _⟩ := w.tup
    obtain ⟨l2, ls2, rfl, s2, r2⟩ := w2.lst
    rw [hK] at s s2
    refine ⟨l, l2, ls, ls2, rfl, s, s2, h1 _ _ _ g1 q1 ?_⟩
    rw [← hK]
    exact walk_mix
  · exact h1.elim
end
end FL

set_option maxRecDepth 100000
set_option maxHeartbeats 4000000
/-! {(a, b): e}: a dict of one pair, its key a tuple; x[-2::-1]. -/
namespace FL
open PySem PySem.Spec PyProof.Rows L2
/-! ### the display -/
section
variable {prog : Program} {w : World} {K : Type} [DecidableEq K] {knd : HeapKind prog w K} {A : Around} {E : Value → Shared → Prop} {s : Shared}
theorem dict_one {env : Env} {keys : List (Option Expr)} {values : List Expr} {pos : Pos} {Q : Value → Shared → Prop} (hu : knd.room A) (hall : keys.all (·.isSome) = true) (hl : keys.length = values.length) (h0 : keys ≠ []) (h15 : keys.length ≤ 15)
    (h : wpAny (model prog w) A (evalPairs (pairTrees keys values env pos)) (fun vs s₁ => ∃ ps, CarriesH knd s₁.heap vs ps ∧ s₁.heap.DictOfH knd s.heap.objs.size [] ∧
      ∀ h' tk, h'.DictOfH knd s.heap.objs.size (storedAllH [] ps) → Heap.SameBut s.heap.objs.size s₁.heap h' → Q (.ref s.heap.objs.size) { s₁ with heap := h', toks := tk }) E
      { s with heap := s.heap.push { cls := .type "dict", data := .dict #[] } }) :
    wpAny (model prog w) A (eval (.Dict keys values pos) env) Q E s := by
  have hn := pairTrees_length keys values env pos hall hl
  have h1 : pairTrees keys values env pos ≠ [] := fun he => by
    rw [he] at hn
    exact h0 (List.length_eq_zero_iff.mp hn.symm)
  rw [arm_eval_Dict, zip_pairTrees keys values env pos hall hl, dictDisplay_pairs _ h1 (by omega)]
  exact wpAny_bind (wpAny_standAt (wpAny_bind (wpAny_subDictH (knd := knd) (Q := fun d s' => wpAny (model prog w) A (pure (Value.ref d)) Q E s') hu (by omega)
    (wpAny_mono h (fun vs s₁ ⟨ps, hc, hm, hq⟩ => ⟨ps, hc, hm, fun h' tk a b => wpAny_pure (hq h' tk a b)⟩) fun _ _ e => e))))
end
section
variable {X : Cx} {pos : Pos}
def tDisp1 (tx tv : TE) : TE := fun σ H Q => ∀ p, H p = none → tPairs [(tx, tv)] σ (upd H p (.dT [])) fun ps H2 => H2 p = some (.dT []) ∧ ∃ (b : Addr) (k : List Key) (y : V), ps = [(.ref b, y)] ∧ H2 b = some (.tup (k.map kV)) ∧ Q (.ref p) (upd H2 p (.dT [(k, y)]))
theorem pe_disp1 {ke e : Expr} {tx tv : TE} (hu : (tupleKind (mixKind X.prog X.w)).room X.A) (hk : PE X ke tx) (he : PE X e tv) : PE X (.Dict [some ke] [e] pos) (tDisp1 tx tv) := by
  refine ⟨fun pins s σ H Q I q => ?_⟩
  have hn := I.hok.fresh (Nat.le_refl s.heap.objs.size)
  have I1 := I.laid (a := s.heap.objs.size) (o := .dT []) (h' := s.heap.push { cls := .type "dict", data := .dict #[] }) (t' := s.toks) (fun _ _ q => Heap.get?_push_of_some _ q) (Nat.le_refl _) (dt_empty s.heap I.big)
  refine dict_one (knd := tupleKind (mixKind X.prog X.w)) hu rfl rfl (by simp) (by simp) (thn ((pps_cons hk he pps_nil).run pins _ σ _ _ I1 (q _ hn)) fun ws s2 ⟨ps, H2, I2, rel, e1, b, k, y, ep, eb, q2⟩ => ?_)
  subst ep
  obtain ⟨hz, hd, xs, r0, dd⟩ := dt_of I2.hok e1
  have ex : xs = [] := by cases r0; rfl
  subst ex
  obtain ⟨kv, vv, ew, r1, r2⟩ : ∃ kv vv, ws = [(kv, vv)] ∧ RelV (.ref b) kv ∧ RelV y vv := by
    cases rel with
    | cons h t => cases t; exact ⟨_, _, rfl, h.1, h.2⟩
  subst ew
  have r1 : kv = .ref b := r1
  subst r1
  refine ⟨[(k, b, vv)], ⟨rfl, rfl, key_of I2.hok eb, trivial⟩, dd, fun h' tk dd' hs => ?_⟩
  have es1 : storedAllH ([] : List (List Key × Addr × Value)) [(k, b, vv)] = [(k, b, vv)] := by
    unfold storedAllH
    rw [List.foldl_cons, List.foldl_nil]
    exact storedH_new (by unfold atKey; rfl) b vv
  rw [es1] at dd'
  obtain ⟨q, es, ep, hq, h2, h3, h4, _, h5⟩ := dd'
  have hb : upd H2 s.heap.objs.size (.dT [(k, y)]) b = some (.tup (k.map kV)) := by
    rw [upd_ne (ne_of eb e1 (fun z => nomatch z))]
    exact eb
  have rel2 : KT (upd H2 s.heap.objs.size (.dT [(k, y)])) [(k, y)] [(k, b, vv)] := .cons ⟨rfl, hb, r2⟩ .nil
  have I3 := d_write (t' := tk) (ob := .dT [(k, y)]) I2 (by rw [e1]; exact True.intro) hs ⟨q, hq⟩ ⟨by rw [sizeLine_eq]; simp, hd, _, rel2, q, es, ep, hq, h2, h3, h4, h5⟩
  exact ⟨.ref s.heap.objs.size, _, I3, rfl, q2⟩
end
def rD1 (fs : FA) (fa : FE) : FE := fun S => (fs S).bind fun ys S1 => match (pks S1 ys).bind keysD with
  | some k => if k.length ≤ lineN then (fa S1).bind fun x S2 => match tk S2 x with
      | some (d, S3) => .ok (.tmp (.own (.dt [(k, d)]))) S3
      | none => .no
    else .no
  | none => .no
section
variable {X : Cx} {c : FCx} {W : WX} {a e : Expr} {es : List Expr} {fa : FE} {fs : FA} {pos p3 : Pos} {k0 : Nat}
theorem sd_d1 (hu : X.A.units < cLine) (hi : PA X es (tA c W fs)) (ha : PE X e (tE c W fa)) : PE X (.Dict [some (.Tuple es k0 p3)] [e] pos) (tE c W (rD1 fs fa)) := by
  refine PE_imp (pe_disp1 hu (pe_tup hi) ha) fun σ H Q ⟨Z, S, fr, h⟩ p hp => ?_
  have k0 := upd_keep (o := .dT []) hp
  have zp : ∀ a, Zt Z [p] a → Z a ∨ a = p := fun a z => z.elim .inl fun z => .inr (by simpa using z)
  have fr1 : Fr c (Zt Z [p]) σ (upd H p (.dT [])) S := fr.add (fun a z => by
      rcases zp a z with z | z
      · exact trk_mono k0 a (fr.ztr a z)
      · subst z; exact upd_some) (fun a z => by
      rcases zp a z with z | z
      · exact .inl z
      · subst z; exact .inr hp) k0
  have s0 : Step c (Zt Z [p]) σ H S σ (upd H p (.dT [])) S := ⟨fr1, fun a o e _ => k0 a o e, fun _ h => .inl h, fun a h => trk_mono k0 a h⟩
  refine tA_bind (post := fun r => PostE c W Z σ H S r Q) fr1 h (fun i S' h => ExW.later h s0 zl) id fun ys S1 h1 us H1 g1 => ?_
  split at h1
  · rename_i k q1
    split at h1
    · rename_i hz
      obtain ⟨kd, q2, q3⟩ := Option.bind_eq_some_iff.mp q1
      have w := keys_vws (pks_vws g1.step.fr g1.ar q2) q3
      subst w
      refine ⟨by rw [List.length_map, ← lineN_eq]; exact hz, fun b hb => ?_⟩
      have al := g1.step.fr.stepA (upd_keep (o := .tup (k.map kV)) hb)
      have s1 := g1.step.trans al
      refine tE_bind (post := fun r => PostE c W Z σ H S r Q) s1.fr h1 (fun i S' h => ExW.later (ExW.later h s0 zl) s1 zl) id fun x S2 h2 v H2 g2 => ?_
      split at h2
      · rename_i d S3 q4
        have s12 := (s1.trans g2.step).sub (Z := Zt (Zt Z [p]) (tmpA v x)) fun a z => z.elim (fun z => .inl (.inl z)) .inr
        have a2 : AR c (OO σ S2 (Zt (Zt Z [p]) (tmpA v x))) σ H2 v x := g2.ar.mono (fun a o e _ => e) (fun a z => .inl (z.elim .inl fun z => .inr (z.elim (fun q => .inl (.inl q)) .inr))) fun a _ o e => e
        obtain ⟨s3, rd⟩ := tk_step fr1 s12 a2 (fun a ha => s1.non (g2.new a ha)) (fun _ h => h) q4
        have s3' := s3.sub (Z := Zt Z [p]) zl
        have hp2 : H2 p = some (.dT []) := s3'.keep p _ upd_same (fr.not_own hp)
        have hb2 : H2 b = some (.tup (k.map kV)) := g2.step.keep b _ upd_same (g1.step.fr.not_own hb)
        refine ⟨hp2, b, k, v, rfl, hb2, h2 _ _ ?_⟩
        have ne : ∀ a, a ≠ p → upd H2 p (.dT [(k, v)]) a = H2 a := fun a h => upd_ne h
        have kk : ∀ a o, H2 a = some o → a ≠ p → upd H2 p (.dT [(k, v)]) a = some o := fun a o e h => by rw [ne a h]; exact e
        have nn : ∀ a, H2 a ≠ none → upd H2 p (.dT [(k, v)]) a ≠ none := fun a h => by
          by_cases q : a = p
          · subst q; exact upd_some
          · rw [ne a q]; exact h
        have f := s3'.fr
        have pz : Zt Z [p] p := .inr (by simp)
        have fr2 : Fr c (Zt Z [p]) σ (upd H2 p (.dT [(k, v)])) S3 :=
          ⟨f.len, fun i sv h => let ⟨v0, e, r⟩ := f.rel i sv h; ⟨v0, e, r.mono (fun a o e n => kk a o e fun q => n (.inr (q ▸ pz))) (fun _ z => .inl z) fun a ds xs e1 e2 e3 => kk a _ e3 fun q => by
              subst q; subst e1; subst e2
              exact (f.own _ ⟨i, ds, h, e⟩).2 pz⟩, f.inj, f.own,
            fun a o e n => kk a o (f.keep a o e n) fun q => by
              subst q
              exact fr.tr0 a (by rw [e]; intro z; cases z) hp,
            fun a h => nn a (f.tr0 a h), fun a z => nn a (f.ztr a z), fun i a h => let ⟨h1, h2, h3, h4⟩ := f.lnt i a h; ⟨h1, h2, nn a h3, h4⟩⟩
        refine ⟨⟨fr2, fun a o e n => kk a o (s3'.keep a o (k0 a o e) n) fun q => (by subst q; rw [hp] at e; cases e), fun a h => (s3'.ow a h).elim .inl fun q => .inr ?_, fun a h => nn a (s3'.tr a (trk_mono k0 a h))⟩, ?_, fun a ha => ?_⟩
        · cases r : H a with
          | none => rfl
          | some o => rw [k0 a o r] at q; cases q
        · refine ⟨p, _, rfl, upd_same, rfl, .cons ?_ .nil⟩
          exact rd.mono (fun a o e n => kk a o e fun q => n (.inr (q ▸ pz))) fun a z => .inl z
        · have : a = p := by simpa [tmpA] using ha
          subst this
          exact hp
      · exact h2.elim
    · exact h1.elim
  · exact h1.elim
/-! ### x[-2::-1] -/
theorem pick2 (items : Array Value) : slicePick items (some (-2)) none (some (-1)) = items.toList.dropLast.reverse.toArray := by
  unfold slicePick
  have hb : sliceBounds (some (-2)) none (some (-1)) items.size = ((((items.size - 1 : Nat) : Int)) - 1, -1, -1) := by
    unfold sliceBounds
    simp
    omega
  rw [hb]
  show ((sliceRange (((items.size - 1 : Nat) : Int) - 1) (-1) (-1)).filterMap (items[·]?)).toArray = _
  rw [PySem.W.krv_sliceRange, PySem.W.krv_range, List.filterMap_reverse]
  have h := PySem.pick_run items 0 (items.size - 1)
  have e : (List.range (items.size - 1)).map (0 + ·) = List.range (items.size - 1) := by
    rw [show ((0 + ·) : Nat → Nat) = id from funext fun k => Nat.zero_add k, List.map_id]
  rw [e, List.drop_zero] at h
  rw [h, List.dropLast_eq_take, Array.length_toList]
end
def tRv2 (K : PySem.W.Frag) (te : TE) : TE := fun σ H Q => te σ H fun x H1 => ∃ a xs, x = .ref a ∧ SqL K H1 a xs ∧ ∀ p, H1 p = none → Q (.ref p) (upd H1 p (.lst xs.dropLast.reverse))
theorem vals_front {xs : List V} {its : List Value} (r : Vals xs its) : Vals xs.dropLast its.dropLast := by
  induction r with
  | nil => exact .nil
  | @cons a b as bs h t ih =>
    cases t with
    | nil => exact .nil
    | cons h2 t2 => exact .cons h ih
section
variable {X : Cx} {c : FCx} {W : WX} {a : Expr} {fa : FE} {pos : Pos}
theorem pe_rv2 {e : Expr} {te : TE} {k j : Nat} {p1 p2 p3 p4 p5 pos : Pos} (he : PE X e te) : PE X (.Subscript e (.Slice (some (.UnaryOp .USub (.Constant (.int 2) j p4) p5)) none (some (.UnaryOp .USub (.Constant (.int 1) k p1) p2)) p3) pos) (tRv2 X.K te) := by
  refine ⟨fun pins s σ H Q I h => ?_⟩
  refine Subscript_ (thn (he.run pins s σ H _ I h) fun v s1 ⟨x, H1, I1, r1, a, xs, ex, hx, q⟩ => ?_)
  subst ex
  cases r1
  have hlo : PO X (some (.UnaryOp .USub (.Constant (.int 2) j p4) p5)) (tPart (tUn (rU fun i => .int (-i)) (tC (.int 2)))) := po_some (pe_un un_neg pe_int)
  have hst : PO X (some (.UnaryOp .USub (.Constant (.int 1) k p1) p2)) (tPart (tUn (rU fun i => .int (-i)) (tC (.int 1)))) := po_some (pe_un un_neg pe_int)
  refine wpAny_Slice (thn (hlo.run pins s1 σ H1 (fun o H2 => o = some (-2) ∧ H2 = H1) I1 ⟨2, rfl, -2, rfl, rfl, rfl⟩) fun vl s2 ⟨l, H2, I2, pl, el, e2⟩ => ?_)
  subst el e2
  refine thn (po_none.run pins s2 σ H2 (fun o H3 => o = none ∧ H3 = H2) I2 ⟨rfl, rfl⟩) fun vu s3 ⟨u, H3, I3, pu, eu, e3⟩ => ?_
  subst eu e3
  refine thn (hst.run pins s3 σ H3 (fun o H4 => o = some (-1) ∧ H4 = H3) I3 ⟨1, rfl, -1, rfl, rfl, rfl⟩) fun vs s4 ⟨o, H4, I4, ps, eo, e4⟩ => ?_
  subst eo e4
  have I5 : Inv X pins σ H4 { s4 with heap := s4.heap.push { cls := .type "slice", data := .fields #[vl, vu, vs] } } := I4.kept (t' := s4.toks) fun b ob q => Heap.get?_push_of_some _ q
  obtain ⟨its, r, ht, hz⟩ := I5.list hx
  have hlen := r.length
  show wpAny (model X.prog X.w) X.A (subscriptTail e (.Slice (some (.UnaryOp .USub (.Constant (.int 2) j p4) p5)) none (some (.UnaryOp .USub (.Constant (.int 1) k p1) p2)) p3) (.ref a) (.ref s4.heap.objs.size)) (EP X pins σ Q) X.xe { s4 with heap := s4.heap.push { cls := .type "slice", data := .fields #[vl, vu, vs] } }
  refine tail_any (ops := [.ref a, .ref s4.heap.objs.size]) ht.isList.typeIs (PySem.slot_list_getitem.lookup) ?_ (by with_unfolding_all rfl)
  refine wpAny_getItem_list_slice ht.isList (Heap.IsSliceOf.new _ vl vu vs) pl pu ps (by decide) ?_ (by rw [List.size_toArray]; omega)
  rw [pick2]
  refine ⟨.ref _, _, I5.laid (t' := s4.toks) (o := .lst xs.dropLast.reverse) (fun b ob q => Heap.get?_push_of_some _ q) (Nat.le_refl _) ?_, rfl, q _ (I5.hok.fresh (Nat.le_refl _))⟩
  exact ⟨by rw [List.length_reverse, List.length_dropLast]; omega, _, 0, (vals_front r).reverse, Heap.get?_push_size _ rfl⟩
theorem rps_front {K : PySem.W.Frag} {H : Hp} {O : Addr → Prop} {xs : List V} {ds : List D} (r : Rps K H O xs ds) : Rps K H O xs.dropLast ds.dropLast := by
  rw [List.dropLast_eq_take, List.dropLast_eq_take, r.length]
  exact r.take _
theorem sd_rv2 {k j : Nat} {q1 q2 q3 q4 q5 : Pos} (hK : c.K = X.K) (ha : PE X a (tE c W fa)) : PE X (.Subscript a (.Slice (some (.UnaryOp .USub (.Constant (.int 2) j q4) q5)) none (some (.UnaryOp .USub (.Constant (.int 1) k q1) q2)) q3) pos) (tE c W (rU1 .rv2 fa)) := by
  refine PE_imp (pe_rv2 ha) fun σ H Q ⟨Z, S, fr, h⟩ => ?_
  obtain ⟨hok, h⟩ := u1_go h
  refine tE_bind (post := fun r => PostE c W Z σ H S r Q) fr h (fun _ _ h => h) id fun x S1 h1 v H1 g1 => ?_
  obtain ⟨r, e1, h3⟩ := of_post (post := fun r => PostE c W Z σ H S r Q) h1 id
  simp only [Option.bind_eq_some_iff, Option.map_eq_some_iff] at e1
  obtain ⟨d, e2, sv, e4, rfl⟩ := e1
  cases d with
  | lst ds =>
    cases e4
    obtain ⟨l, xs, e7, hl, r⟩ := (pk_vw g1.step.fr g1.ar e2).lst
    rw [hK] at hl
    exact ⟨l, xs, e7, hl, fun q hq => h3 _ _ (got_new fr g1.step zl ⟨q, _, hq, rfl, rfl, (rps_front r).reverse⟩)⟩
  | _ => cases e4
end
end FL

set_option maxRecDepth 100000
set_option maxHeartbeats 4000000
/-! repr([a, b]): the lists within are only looked at. -/
namespace FL
open PySem PySem.Spec PyProof.Rows L2
theorem vw_rp {K : PySem.W.Frag} {H H' : Hp} {O : Addr → Prop} (k : ∀ a o, H a = some o → H' a = some o) {v : V} {d : D} (h : Vw K H O v d) : Rp K H' (fun _ => False) v d := by
  cases d with
  | lst ds =>
    obtain ⟨a, xs, rfl, hs, r⟩ := h
    have r' : Rps K H' (fun _ => False) xs ds := r.mono (fun a o e _ => k a o e) fun _ z => z.elim
    rcases hs with hs | hs
    · exact .lst (.inl ⟨hs.imp (k _ _) fun ⟨o, e⟩ => ⟨o, k _ _ e⟩, id⟩) r'
    · exact .lst (.inr (.inr hs)) r'
  | non => exact Rp.mono (fun a o e _ => k a o e) (fun _ z => z.elim) (show Rp K H O v .non from h)
  | bl b => exact Rp.mono (fun a o e _ => k a o e) (fun _ z => z.elim) (show Rp K H O v (.bl b) from h)
  | int b => exact Rp.mono (fun a o e _ => k a o e) (fun _ z => z.elim) (show Rp K H O v (.int b) from h)
  | str b => exact Rp.mono (fun a o e _ => k a o e) (fun _ z => z.elim) (show Rp K H O v (.str b) from h)
  | tup b => exact Rp.mono (fun a o e _ => k a o e) (fun _ z => z.elim) (show Rp K H O v (.tup b) from h)
  | exc b => exact Rp.mono (fun a o e _ => k a o e) (fun _ z => z.elim) (show Rp K H O v (.exc b) from h)
  | dic b => exact Rp.mono (fun a o e _ => k a o e) (fun _ z => z.elim) (show Rp K H O v (.dic b) from h)
theorem vws_rps {K : PySem.W.Frag} {H H' : Hp} {O : Addr → Prop} (k : ∀ a o, H a = some o → H' a = some o) : ∀ {vs : List V} {ds : List D}, Vws K H O vs ds → Rps K H' (fun _ => False) vs ds
  | _, _, .nil => .nil
  | _, _, .cons h r => .cons (vw_rp k h) (vws_rps k r)
def rRpl (fs : FA) : FE := fun S => (fs S).bind fun xs S1 => .of ((pks S1 xs).bind fun ds => if ds.length ≤ lineN then (bltD .repr [.lst ds]).map Arg.tmp else none) S1
section
variable {X : Cx} {c : FCx} {W : WX} {es : List Expr} {fs : FA} {pos p lpos : Pos} {k0 : Nat}
theorem sd_rpl (hK : c.K = X.K) (hc : X.calm = true) (hg : X.A.guards = some []) (hu : X.A.units + 70 < cLine) (gl : Gl X "repr") (mg : X.mg "repr" = none) (ha : PA X es (tA c W fs)) :
    PE X (.Call (.Name "repr" p) [.List es lpos] [] pos) (tE c W (rRpl fs)) := by
  have hn : NS (.List es lpos) := fun _ _ e => by cases e
  have h1 : (("repr" : Str) : Str) ≠ ("__name__" : Str) := by decide +kernel
  have h2 : (("repr" : Str) == ("__debug__" : Str)) = false := by decide +kernel
  have hs := star_cons (env := X.env) (es := []) hn
  have hp := star_none (pos := pos) (env := X.env) (es := [.List es lpos]) fun x hx => by rw [List.mem_singleton.mp hx]; exact hn
  have base := pe_callB (p := p) (pos := pos) (call_b .repr hc hg hu) gl mg Blt.repr.boot (pa_cons (pe_lst ha) pa_nil (star_cons hn)) h1 h2 hs hp
  refine PE_imp base fun σ H Q ⟨Z, S, fr, h⟩ => ?_
  refine tA_bind (post := fun r => PostE c W Z σ H S r Q) fr h (fun _ _ h => h) id fun xs S1 h1 vs H1 g1 => ?_
  obtain ⟨r, e1, h3⟩ := of_post (post := fun r => PostE c W Z σ H S r Q) h1 id
  simp only [Option.bind_eq_some_iff] at e1
  obtain ⟨ds, e2, e3⟩ := e1
  split at e3
  · rename_i hz
    obtain ⟨sv, e4, rfl⟩ := Option.map_eq_some_iff.mp e3
    have vw := pks_vws g1.step.fr g1.ar e2
    refine ⟨by rw [(vws_rps (fun _ _ e => e) vw).length, ← lineN_eq]; exact hz, fun q hq => ⟨fun _ => False, [.lst ds], sv, ?_, e4, fun v' H' n => ?_⟩⟩
    · rw [← hK]
      exact .cons ⟨q, vs, rfl, .inl (.inl upd_same), vws_rps (upd_keep hq) vw⟩ .nil
    · have al := g1.step.fr.stepA (upd_keep (o := .lst vs) hq)
      refine h3 v' H' (got_new fr (g1.step.trans al) zl ?_)
      simp only [bltD] at e4
      split at e4
      · cases e4
        rcases n with ⟨e, rr⟩ | ⟨_, _, _, e, _⟩
        · cases rr
          exact .inl ⟨e, .str _⟩
        · cases e
      · cases e4
  · cases e3
end
end FL

set_option maxRecDepth 100000
set_option maxHeartbeats 4000000
/-! text.count(text). -/
namespace FL
open PySem PySem.Spec PyProof.Rows L2
def rSct (i : Nat) (fb : FE) : FE := fun S => match gt S i with
  | some (.val (.str a)) => (fb S).bind fun y S1 => .of ((pk S1 y).bind fun e => match e with | .str b => some (.tmp (.val (.int (Txt.count a b)))) | _ => none) S1
  | _ => .no
section
variable {X : Cx} {c : FCx} {W : WX} {e : Expr} {fb : FE} {p apos cpos : Pos}
theorem sd_sct {i : Nat} {x : Str} (hN : X.N[i]? = some x) (hv : Vis X.env.scope x) (hd : (x == ("__debug__" : Str)) = false) (hcd : (x == ("__classdict__" : Str)) = false) (hl : (apos.endLine == cpos.line) = true)
    (ha : PE X e (tE c W fb)) (hn : NS e) (hfew : ((backTo cpos (starEach [e] X.env)).all (fun x => !x.1) && (backToKw cpos (keywordEach [] X.env)).all (fun x => x.1.isSome)
      && decide ([e].length + ([] : List Keyword).length + (if ([] : List Keyword).isEmpty then 0 else 1) < 30)) = true) :
    PE X (.Call (.Attribute (.Name x p) "count" apos) [e] [] cpos) (tE c W (rSct i fb)) := by
  refine PE_imp (pe_bm PySem.F.plainAttrs_str PySem.F.slot_str_count PySem.F.type_str_count mt_count (pe_slot hN hv hd hcd) (pa_cons ha pa_nil (star_cons hn)) rfl hfew hl (star_cons hn) rfl) fun σ H Q ⟨Z, S, fr, h⟩ => ?_
  unfold rSct at h
  split at h
  · rename_i a q0
    obtain ⟨v, e1, r⟩ := fr.rel i _ q0
    have r : Rp c.K H (OO σ S Z) v (.str a) := r
    cases r
    refine ⟨_, e1, rfl, ?_⟩
    refine tE_bind (post := fun r => PostE c W Z σ H S r Q) fr h (fun _ _ h => h) id fun y S1 h1 u H1 g1 => ?_
    obtain ⟨r, e2, h3⟩ := of_post (post := fun r => PostE c W Z σ H S r Q) h1 id
    obtain ⟨d, e3, e4⟩ := Option.bind_eq_some_iff.mp e2
    cases d with
    | str b =>
      cases e4
      have w := pk_vw g1.step.fr g1.ar e3
      cases w.str
      exact ⟨a, b, rfl, rfl, h3 _ _ (got_new fr g1.step zl new_int)⟩
    | _ => cases e4
  · exact h.elim
end
end FL

set_option maxRecDepth 100000
set_option maxHeartbeats 4000000
/-! list.index, dict.get with something else, slot[slot] = e behind slot = (a, b). -/
namespace FL
open PySem PySem.Spec PyProof.Rows L2

@[irreducible] def idxD (ds : List D) (d : D) : Option Nat := if SeqAt.shaped (toPy d) = true ∧ SeqAt.shaped (.list (toPys ds)) = true then (toPys ds).findIdx? (fun z => PyData.eqv z (toPy d)) else none
/-- e.index(e2), e a list -/
def rIdx (fa fb : FE) : FE := fun S => (fa S).bind fun x S1 => match pk S1 x with
  | some (.lst _) => (fb S1).bind fun y S2 => .of ((pk S2 x).bind fun d => (pk S2 y).bind fun e => match d with
    | .lst ds => (idxD ds e).map fun j => .tmp (.val (.int (j : Nat)))
    | _ => none) S2
  | _ => .no
/-- slot.get(k, n), n an int -/
def dGet2 (S : FS) (i : Nat) (d : D) (n : D) : Option D := match gt S i with
  | some (.own (.dk kvs)) => (keyD d).bind fun k => match n with
    | .int m => some ((dVal kvs k).getD (.int m))
    | _ => none
  | some (.own (.dt kvs)) => match d with
    | .tup ds => (keysD ds).bind fun k => match n with
      | .int m => some ((dVal kvs k).getD (.int m))
      | _ => none
    | _ => none
  | _ => none
def isDic (S : FS) (i : Nat) : Bool := match gt S i with
  | some (.own (.dk _)) => true
  | some (.own (.dt _)) => true
  | _ => false
def rDgv (i : Nat) (fa fb : FE) : FE := fun S => if isDic S i = true then (fa S).bind fun x S1 => (fb S1).bind fun y S2 => .of ((pk S2 x).bind fun d => (pk S2 y).bind fun e => (dGet2 S2 i d e).map fun r => .tmp (.val r)) S2 else .no
/-- slot j = (a, b); slot i[slot j] = e -/
def sKput (L : List Bool) (i j : Nat) (fs : FA) (fa : FE) : FSt := fun S => (fs S).toO fun ys S1 => match tks ys S1 with
  | some (ds, S2) => match keysD ds with
    | some k => if k.length ≤ lineN ∧ isL L j = false ∧ j < S2.length then (fa (st S2 j (some (.val (.tup ds))))).toO fun x S4 => match tk S4 x with
        | some (d, S5) => match gt S5 i with
          | some (.own (.dt kvs)) => if kvs.length < lineN then .nx (st S5 i (some (.own (.dt (dPut kvs k d))))) else .no
          | _ => .no
        | none => .no
      else .no
    | none => .no
  | none => .no

section
variable {X : Cx} {pins : List (Addr × Obj)} {σ : L2.St} {H : Hp} {s : Shared} {a : Addr} {y z : V} {u r : Value} {o : Option V} {A : Around} {E : Value → Shared → Prop}
theorem d_get2B {Q : Value → Shared → Prop} (hu : A.units + 1 < cLine) (I : Inv X pins σ H s) (ry : RelV y u) (g : DGetB X.K H a y o) (rz : RelV z r) (h : ∀ v' s', RelV (o.getD z) v' → Inv X pins σ H s' → Q v' s') :
    wpAny (model X.prog X.w) A (call (.builtin "dict.get") [.ref a, u, r]) Q E s := by
  rcases g with ⟨kvs, k, e1, e2, e3⟩ | ⟨kvs, k, b, e1, e2, e3, e4⟩
  · exact d_get2 hu I (.inl ⟨kvs, k, e1, e2, e3⟩) ry rz fun v' s' i rv => h v' s' rv i
  · subst e2
    cases (show u = Value.ref b from ry)
    obtain ⟨_, hm, xs, rel, dd⟩ := dt_rd I.hok e1
    refine call_meetsIn PySem.F.slot_dict_get dd.typeIs PySem.F.entry_dict_get (PySem.F.args_dict_get_3 _ _ _) (meetsH_dict_get_default (tupleKind (mixKind X.prog X.w)) a b hm r) ⟨tupleKind_room_in1 hu, k, xs, keyT_of I e3, dd, h _ _ ?_ (I.tok _)⟩
    rw [e4]
    exact (rel.val k).getD rz
end
def tDGet2B (K : PySem.W.Frag) (td ty tx : TE) : TE := fun σ H Q => td σ H fun x H1 => ∃ a, x = .ref a ∧ IsD H1 a ∧ ty σ H1 fun y H2 => tx σ H2 fun z H3 => ∃ o, DGetB K H3 a y o ∧ Q (o.getD z) H3
section
variable {X : Cx} {o e f : Expr} {apos cpos : Pos} {td ty tx : TE}
theorem pe_dget2B (hu : X.A.units + 1 < cLine) (ho : PE X o td) (he : PE X e ty) (hf : PE X f tx) (m : M2 X o "get" apos e f cpos) : PE X (.Call (.Attribute o "get" apos) [e, f] [] cpos) (tDGet2B X.K td ty tx) := by
  refine ⟨fun pins s σ H Q I h => ?_⟩
  refine wpAny_Call_method m.base m.few m.line PySem.F.plainAttrs_dict PySem.F.slot_dict_get PySem.F.type_dict_get (thn (ho.run pins s σ H _ I h) fun v0 s1 ⟨x, H1, I1, rx, a, ea, d, q1⟩ => ?_)
  subst ea
  obtain rfl : v0 = Value.ref a := rx
  refine ⟨(isD_at I1 d).1, (isD_at I1 d).2.1, ?_⟩
  rw [m.trees]
  refine Calls.callWith_builtin rfl (Calls.evalArgs_plain (Calls.spliced_cons (thn (he.run pins s1 σ H1 _ I1 q1) fun v1 s2 ⟨y, H2, I2, ry, q2⟩ => Calls.spliced_cons (thn (hf.run pins s2 σ H2 _ I2 q2) fun v2 s3 ⟨z, H3, I3, rz, ov, g, q3⟩ => Calls.spliced_nil ?_))))
  exact d_get2B hu I3 ry g rz fun v' s4 rv I4 => ⟨_, H3, I4, rv, q3⟩
end
section
variable {X : Cx} {c : FCx} {W : WX} {a b e f : Expr} {es : List Expr} {fa fb : FE} {fs : FA} {pos p apos cpos : Pos} {L : List Bool}
theorem sd_idx (hK : c.K = X.K) (hu : X.A.units + 65 < cLine) (ha : PE X a (tE c W fa)) (hb : PE X b (tE c W fb)) (hn : NS b) (hbase : attributeBase a "index" X.env (eval a X.env) = eval a X.env) (hl : (apos.endLine == cpos.line) = true)
    (hfew : ((backTo cpos (starEach [b] X.env)).all (fun x => !x.1) && (backToKw cpos (keywordEach [] X.env)).all (fun x => x.1.isSome)
      && decide ([b].length + ([] : List Keyword).length + (if ([] : List Keyword).isEmpty then 0 else 1) < 30)) = true) :
    PE X (.Call (.Attribute a "index" apos) [b] [] cpos) (tE c W (rIdx fa fb)) := by
  refine PE_imp (pe_bm PySem.F.plainAttrs_list PySem.F.slot_list_index PySem.F.type_list_index (mt_indexD hu) ha (pa_cons hb pa_nil (star_cons hn)) hbase hfew hl (star_cons hn) rfl) fun σ H Q ⟨Z, S, fr, h⟩ => ?_
  refine tE_bind (post := fun r => PostE c W Z σ H S r Q) fr h (fun _ _ h => h) id fun x S1 h1 v H1 g1 => ?_
  split at h1
  · rename_i ds0 q1
    obtain ⟨l, xs, e7, hl, r⟩ := (pk_vw g1.step.fr g1.ar q1).lst
    rw [hK] at hl
    subst e7
    refine ⟨.inl ⟨rfl, xs, hl⟩, ?_⟩
    refine tE_bind (post := fun r => PostE c W Z σ H S r Q) g1.step.fr h1 (fun i S' h => ExW.later h g1.step zl) id fun y S2 h2 u H2 g2 => ?_
    obtain ⟨r, e1, h3⟩ := of_post (post := fun r => PostE c W Z σ H S r Q) h2 id
    simp only [Option.bind_eq_some_iff] at e1
    obtain ⟨d, e2, e, e3, e4⟩ := e1
    have a1 := g1.onto g2.step fun a z => z.elim .inl fun q => .inr (g2.new a q)
    have w1 := pk_vw g2.step.fr a1 e2
    have w2 := pk_vw g2.step.fr g2.ar e3
    cases d with
    | lst ds =>
      obtain ⟨j, e5, e6⟩ := Option.map_eq_some_iff.mp e4
      unfold idxD at e5
      split at e5
      · rename_i hs
        obtain ⟨hj, hz, hno⟩ := List.findIdx?_eq_some_iff_getElem.mp e5
        have w1' := w1.dp (nd_of_shaped (by unfold toPy; exact hs.2))
        have w2' := w2.dp (nd_of_shaped hs.1)
        rw [hK] at w1' w2'
        unfold toPy at w1'
        subst e6
        refine ⟨l, u, _, _, j, _, rfl, rfl, w1', w2', hs.2, hs.1, List.getElem?_eq_getElem hj, hz, fun m z' hm hz' => ?_, h3 _ _ (got_new fr (g1.step.trans g2.step) (fun a z => .inl (.inl z)) new_int)⟩
        have := hno m hm
        obtain ⟨hm2, hz2⟩ := List.getElem?_eq_some_iff.mp hz'
        subst hz2
        simpa using this
      · cases e5
    | _ => cases e4
  · exact h1.elim
theorem isDic_iff {S : FS} {i : Nat} (h : isDic S i = true) : (∃ kvs : List (Key × D), gt S i = some (.own (.dk kvs))) ∨ ∃ kvs : List (List Key × D), gt S i = some (.own (.dt kvs)) := by
  unfold isDic at h
  split at h
  · rename_i kvs q; exact .inl ⟨kvs, q⟩
  · rename_i kvs q; exact .inr ⟨kvs, q⟩
  · cases h
theorem sd_dgv {i : Nat} {x : Str} (hK : c.K = X.K) (hu : X.A.units + 1 < cLine) (hN : X.N[i]? = some x) (hv : Vis X.env.scope x) (hd : (x == ("__debug__" : Str)) = false) (hcd : (x == ("__classdict__" : Str)) = false) (ha : PE X a (tE c W fa)) (hb : PE X b (tE c W fb))
    (m : M2 X (.Name x p) "get" apos a b cpos) : PE X (.Call (.Attribute (.Name x p) "get" apos) [a, b] [] cpos) (tE c W (rDgv i fa fb)) := by
  refine PE_imp (pe_dget2B hu (pe_slot hN hv hd hcd) ha hb m) fun σ H Q ⟨Z, S, fr, h⟩ => ?_
  unfold rDgv at h
  split at h
  · rename_i hi
    obtain ⟨v0, hv0, p0, ep, isd⟩ : ∃ v0, σ[i]? = some (some v0) ∧ ∃ p0, v0 = .ref p0 ∧ IsD H p0 := by
      rcases isDic_iff hi with ⟨kvs, q⟩ | ⟨kvs, q⟩
      · obtain ⟨l, xs, w1, w2, w3⟩ := dk_at fr q
        exact ⟨_, w1, l, rfl, .inl ⟨xs, .inl w2⟩⟩
      · obtain ⟨l, xs, w1, w2, w3⟩ := dt_at fr q
        exact ⟨_, w1, l, rfl, .inr ⟨xs, .inl w2⟩⟩
    refine ⟨v0, hv0, p0, ep, isd, ?_⟩
    refine tE_bind (post := fun r => PostE c W Z σ H S r Q) fr h (fun _ _ h => h) id fun y S1 h1 v H1 g1 => ?_
    refine tE_bind (post := fun r => PostE c W Z σ H S r Q) g1.step.fr h1 (fun i S' h => ExW.later h g1.step zl) id fun z S2 h2 u H2 g2 => ?_
    obtain ⟨r, e1, h3⟩ := of_post (post := fun r => PostE c W Z σ H S r Q) h2 id
    simp only [Option.bind_eq_some_iff, Option.map_eq_some_iff] at e1
    obtain ⟨d, e2, e, e3, r0, e4, rfl⟩ := e1
    have a1 := g1.onto g2.step fun a z => z.elim .inl fun q => .inr (g2.new a q)
    have w1 := pk_vw g2.step.fr a1 e2
    have w2 := pk_vw g2.step.fr g2.ar e3
    subst ep
    have low : ∀ {w : V} {d : D}, Rp c.K H2 (OO σ S2 (Zt (Zt Z (tmpA v y)) (tmpA u z))) w d → Got c Z σ H S H2 S2 w (.tmp (.val d)) := fun r => got_new fr (g1.step.trans g2.step) (fun a z => .inl (.inl z)) (.inl ⟨rfl, r⟩)
    unfold dGet2 at e4
    split at e4
    · rename_i kvs q
      obtain ⟨k, e5, e6⟩ := Option.bind_eq_some_iff.mp e4
      split at e6
      · rename_i n
        cases e6
        cases w2.int
        obtain ⟨l, xs, y1, y2, y3⟩ := dk_at g2.step.fr q
        rw [hv0] at y1; cases y1
        have kv := key_vw w1 e5
        refine ⟨valV xs k, .inl ⟨xs, k, .inl y2, kv, rfl⟩, ?_⟩
        cases q2 : dVal kvs k with
        | none =>
          rw [(y3.val k).2 q2]
          rw [q2] at h3
          exact h3 _ _ (low (.int n))
        | some d =>
          obtain ⟨w, z1, z2⟩ := (y3.val k).1 d q2
          rw [z1]
          rw [q2] at h3
          exact h3 _ _ (low z2)
      · cases e6
    · rename_i kvs q
      split at e4
      · rename_i ds
        obtain ⟨k, e5, e6⟩ := Option.bind_eq_some_iff.mp e4
        split at e6
        · rename_i n
          cases e6
          cases w2.int
          obtain ⟨l, xs, y1, y2, y3⟩ := dt_at g2.step.fr q
          rw [hv0] at y1; cases y1
          obtain ⟨b0, zs, v1, v2, v3, _⟩ := w1.tup
          rw [keys_rel v3 e5, hK] at v2
          refine ⟨valV xs k, .inr ⟨xs, k, b0, .inl y2, v1, v2, rfl⟩, ?_⟩
          cases q2 : dVal kvs k with
          | none =>
            rw [(y3.val k).2 q2]
            rw [q2] at h3
            exact h3 _ _ (low (.int n))
          | some d =>
            obtain ⟨w, z1, z2⟩ := (y3.val k).1 d q2
            rw [z1]
            rw [q2] at h3
            exact h3 _ _ (low z2)
        · cases e6
      · cases e4
    · cases e4
  · exact h.elim
/-- x = (a, b); y[x] = e -/
theorem sd_kput {i j k0 : Nat} {x z : Str} {ss : List Stmt} {g : FSt} {p2 p3 p4 p5 pos2 : Pos} (hL : LOk c L) (hu : X.A.units + 1 < cLine) (hNd : X.N.Nodup) (hj : X.N[j]? = some z) (hlo : Loc X.env.scope z) (hfn : X.fn z = true ∨ X.env.scope.names.lookup z = some .local)
    (hN : X.N[i]? = some x) (hv : Vis X.env.scope x) (hd : (x == ("__debug__" : Str)) = false) (hcd : (x == ("__classdict__" : Str)) = false)
    (hvj : Vis X.env.scope z) (hdj : (z == ("__debug__" : Str)) = false) (hcdj : (z == ("__classdict__" : Str)) = false) (hi : PA X es (tA c W fs)) (ha : PE X e (tE c W fa)) (h2 : PSs X ss (tS c W g))
    (hs : swapsWith e (some (.Subscript (.Name x p) (.Name z p3) p2)) pos2.line X.env = pure false) :
    PSs X (.Assign [.Name z p4] (.Tuple es k0 p5) pos :: .Assign [.Subscript (.Name x p) (.Name z p3) p2] e pos2 :: ss) (tS c W (sSeq (sKput L i j fs fa) g)) := by
  refine PSs_imp (pss_cons (ps_set hNd hj hlo (pe_tup hi) rfl hfn) (pss_cons (ps_dput hu (pe_slot hN hv hd hcd) (pe_slot hj hvj hdj hcdj) ha hs) h2)) fun E σ H ⟨Z, S, fr, h⟩ => ?_
  have h9 : PostS c W Z σ H S ((fs S).toO fun ys S1 => (match tks ys S1 with
  | some (ds, S2) => match keysD ds with
    | some k => if k.length ≤ lineN ∧ isL L j = false ∧ j < S2.length then (fa (st S2 j (some (.val (.tup ds))))).toO fun x S4 => match tk S4 x with
        | some (d, S5) => match gt S5 i with
          | some (.own (.dt kvs)) => if kvs.length < lineN then .nx (st S5 i (some (.own (.dt (dPut kvs k d))))) else .no
          | _ => .no
        | none => .no
      else .no
    | none => .no
  | none => .no : O).bind g) E := by
    unfold sSeq sKput at h
    cases q : fs S <;> (rw [q] at h; exact h)
  refine tA_toO fr h9 fun ys S1 h1 vs H1 g1 => ?_
  cases q1 : tks ys S1 with
  | none => rw [q1] at h1; exact h1.elim
  | some pr =>
    obtain ⟨ds, S2⟩ := pr
    rw [q1] at h1
    dsimp only at h1
    cases q2 : keysD ds with
    | none => rw [q2] at h1; exact h1.elim
    | some k =>
      rw [q2] at h1
      dsimp only at h1
      by_cases hc : k.length ≤ lineN ∧ isL L j = false ∧ j < S2.length
      · rw [if_pos hc] at h1
        obtain ⟨hz, hlj, hjl⟩ := hc
        obtain ⟨st1, r⟩ := g1.taken fr q1
        have ek := keys_rel r q2
        subst ek
        refine ⟨by rw [List.length_map, ← lineN_eq]; exact hz, fun p hp => ?_⟩
        have got : Got c Z σ H S (upd H1 p (.tup (k.map kV))) S2 (.ref p) (.tmp (.val (.tup ds))) := got_new fr st1 (fun _ h => h) (.inr ⟨p, k.map kV, ds, rfl, hp, rfl, rfl, r⟩)
        have s0 := got.one.stored (is := [j]) (ss := [.val (.tup ds)]) (S2 := S2) (S3 := st S2 j (some (.val (.tup ds)))) hL fr rfl (if_pos ⟨hlj, hjl⟩)
        have hlen : j < σ.length := by rw [st1.fr.len]; exact hjl
        have h1' := PostS.after s0 h1
        have h2' : PostS c W Z (setAll [j] [.ref p] σ) (upd H1 p (.tup (k.map kV))) (st S2 j (some (.val (.tup ds)))) ((fa (st S2 j (some (.val (.tup ds))))).toO fun x S4 => (match tk S4 x with
            | some (d, S5) => match gt S5 i with
              | some (.own (.dt kvs)) => if kvs.length < lineN then .nx (st S5 i (some (.own (.dt (dPut kvs k d))))) else .no
              | _ => .no
            | none => .no : O).bind g) E := by
          cases q : fa (st S2 j (some (.val (.tup ds)))) <;> (rw [q] at h1'; exact h1')
        have nown : ¬ Own (setAll [j] [.ref p] σ) (st S2 j (some (.val (.tup ds)))) p := fun ⟨m, b, e1, e2⟩ => by
          rw [gt_st] at e1
          by_cases e : j = m
          · rw [if_pos e, if_pos hjl] at e1
            cases e1
          · rw [if_neg e] at e1
            refine st1.fr.not_own hp ⟨m, b, e1, ?_⟩
            have e2 : (σ.set j (some (.ref p)))[m]? = some (some (.ref p)) := e2
            rw [List.getElem?_set_ne e] at e2
            exact e2
        have hj0 : (setAll [j] [.ref p] σ)[j]? = some (some (.ref p)) := by
          show (σ.set j (some (.ref p)))[j]? = _
          rw [List.getElem?_set_self hlen]
        show tE c W fa (setAll [j] [.ref p] σ) (upd H1 p (.tup (k.map kV))) _
        refine tE_toO s0.fr h2' fun x S4 h4 v H4 g4 => ?_
        have hp4 : H4 p = some (.tup (k.map kV)) := g4.step.keep p _ upd_same nown
        cases q4 : tk S4 x with
        | none => rw [q4] at h4; exact h4.elim
        | some pr4 =>
          obtain ⟨d, S5⟩ := pr4
          rw [q4] at h4
          dsimp only at h4
          obtain ⟨s3, rd⟩ := tk_step s0.fr g4.step g4.ar g4.new (fun _ h => h) q4
          have s3' := s3.sub (Z := Z) zl
          split at h4
          · rename_i kvs q5
            split at h4
            · rename_i hz2
              obtain ⟨l2, ls2, w1, w2, w3⟩ := dt_at s3'.fr q5
              refine ⟨_, w1, _, hj0, ?_⟩
              have wr := s3'.fr.writeB (ds' := .dt (dPut kvs k d)) (xs' := .dT (putK ls2 k v)) q5 w1 fun O' kk g => ⟨l2, _, rfl, upd_same, ((w3.put k rd).mono kk g).1, ((w3.put k rd).mono kk g).2⟩
              refine ⟨l2, _, rfl, .t w2 hp4 (by rw [w3.length, ← lineN_eq]; exact hz2), ?_⟩
              have st9 := s3'.trans wr
              exact ⟨Z, _, st9.fr, PostS.after st9 h4⟩
            · exact h4.elim
          · exact h4.elim
      · rw [if_neg hc] at h1
        exact h1.elim
end
end FL

set_option maxRecDepth 100000
set_option maxHeartbeats 4000000
/-! Dicts of ints that are values: a slot's dict becomes one, {e: e2}, list(e), e.get(k, n), for x, y in e.items(). -/
namespace FL
open PySem PySem.Spec PyProof.Rows L2

def dicI : List (Key × D) → Option (List (Int × Int))
  | [] => some []
  | p :: r => match p.1, p.2 with
    | .inl i, .int j => (dicI r).map fun ns => (i, j) :: ns
    | _, _ => none
theorem dicI_rel {K : PySem.W.Frag} {H : Hp} {O : Addr → Prop} : ∀ {kvs : List (Key × D)} {xs : List (Key × V)} {ns : List (Int × Int)}, xs.map Prod.fst = kvs.map Prod.fst → Rps K H O (xs.map Prod.snd) (kvs.map Prod.snd) → dicI kvs = some ns → xs = ns.map kiV
  | [], xs, ns, e, _, h => by
    cases h
    simpa using e
  | p :: kvs, [], ns, e, _, _ => by simp at e
  | (k, d) :: kvs, (k', v) :: xs, ns, e, r, h => by
    simp only [List.map_cons, List.cons.injEq] at e r
    unfold dicI at h
    dsimp only at h
    split at h
    · obtain ⟨ms, h1, rfl⟩ := Option.map_eq_some_iff.mp h
      cases r with
      | cons a r =>
        cases a
        rw [List.map_cons, ← dicI_rel e.2 r h1]
        have := e.1
        subst this
        rfl
    · cases h
/-- slot i's dict of ints as a value -/
def rFrz (i : Nat) : FE := fun S => match gt S i with
  | some (.own (.dk kvs)) => match dicI kvs with
    | some ns => .ok (.tmp (.val (.dic ns))) (st S i (some (.val (.dic ns))))
    | none => .no
  | _ => .no
/-- {e: e2} -/
def rFd (fa fb : FE) : FE := fun S => (fa S).bind fun x S1 => (fb S1).bind fun y S2 => match pk S2 x, pk S2 y with
  | some (.int i), some (.int j) => .ok (.tmp (.val (.dic [(i, j)]))) S2
  | _, _ => .no
def dicGet (ns : List (Int × Int)) (k : Int) : Option Int := (ns.find? fun p => decide (p.1 = k)).map (·.2)
/-- list(e) -/
def rDls (fa : FE) : FE := fun S => (fa S).bind fun x S1 => match pk S1 x with
  | some (.dic ns) => .ok (.tmp (.own (ns.map fun p => D.int p.1))) S1
  | _ => .no
/-- e.get(k, n) -/
def rDgf (fo fa fb : FE) : FE := fun S => (fo S).bind fun o S0 => match pk S0 o with
  | some (.dic ns) => (fa S0).bind fun x S1 => (fb S1).bind fun y S2 => match pk S2 x, pk S2 y with
    | some (.int k), some (.int n) => .ok (.tmp (.val (.int ((dicGet ns k).getD n)))) S2
    | _, _ => .no
  | _ => .no
def kvItems (ns : List (Int × Int)) : List D := ns.map fun p => .tup [.int p.1, .int p.2]
/-- for x, y in e.items() -/
def sForI (L : List Bool) (fa : FE) (tg : Tg) (f : FSt) : FSt := fun S => (fa S).toO fun x S1 => match pk S1 x with
  | some (.dic ns) => forL L tg f (kvItems ns) S1
  | _ => .no

section
variable {X : Cx} {e : Expr} {te : TE}
theorem pe_lockF (h : PE X e te) : PE X e (fun σ H Q => te σ H fun x H1 => ∃ a u, x = .ref a ∧ H1 a = some u ∧ Mut (some u) ∧ ∀ od, Q x (upd H1 a (.frz od u))) := by
  refine ⟨fun pins s σ H Q I q => thn (h.run pins s σ H _ I q) fun v s1 ⟨x, H1, I1, r, a, u, ex, hu, mu, q1⟩ => ?_⟩
  obtain ⟨od, I2⟩ := I1.lock hu mu
  exact ⟨x, _, I2, r, q1 od⟩
end
section
variable {c : FCx} {Z : Addr → Prop} {σ : Slots} {H : Hp} {S : FS}
theorem Fr.lock (fr : Fr c Z σ H S) {i : Nat} {b : Bx} {a : Addr} {ns : List (Int × Int)} (q : gt S i = some (.own b)) (hv0 : σ[i]? = some (some (.ref a))) (od : Obj) :
    Step c Z σ H S σ (upd H a (.frz od (.dK (ns.map kiV)))) (st S i (some (.val (.dic ns)))) ∧ StD (upd H a (.frz od (.dK (ns.map kiV)))) (OO σ (st S i (some (.val (.dic ns)))) Z) a ns := by
  have ow : Own σ S a := ⟨i, _, q, hv0⟩
  have hi := gt_lt q
  have sub : ∀ j ds, gt (st S i (some (.val (.dic ns)))) j = some (.own ds) → gt S j = some (.own ds) ∧ i ≠ j := fun j ds h1 => by
    rw [gt_st] at h1
    by_cases e : i = j
    · rw [if_pos e, if_pos hi] at h1; cases h1
    · rw [if_neg e] at h1; exact ⟨h1, e⟩
  have own' : ∀ b, Own σ (st S i (some (.val (.dic ns)))) b → Own σ S b ∧ b ≠ a := fun b ⟨j, ds, h1, h2⟩ => by
    obtain ⟨h1, e⟩ := sub j ds h1
    exact ⟨⟨j, ds, h1, h2⟩, fun eb => e (fr.inj i j _ _ a q h1 hv0 (eb ▸ h2))⟩
  have ne : ∀ b, b ≠ a → upd H a (.frz od (.dK (ns.map kiV))) b = H b := fun b h => upd_ne h
  have keepN : ∀ b o, H b = some o → ¬ Own σ S b → upd H a (.frz od (.dK (ns.map kiV))) b = some o := fun b o e n => by rw [ne b fun z => n (z ▸ ow)]; exact e
  have nn : ∀ b, H b ≠ none → upd H a (.frz od (.dK (ns.map kiV))) b ≠ none := fun b h => by
    by_cases q : b = a
    · subst q; exact upd_some
    · rw [ne b q]; exact h
  have std : StD (upd H a (.frz od (.dK (ns.map kiV)))) (OO σ (st S i (some (.val (.dic ns)))) Z) a ns := ⟨⟨od, upd_same⟩, fun z => z.elim (fun w => (own' a w).2 rfl) (fr.own a ow).2⟩
  refine ⟨⟨⟨by rw [st_len]; exact fr.len, fun j sv h => ?_, fun j k ds es b h1 h2 h3 h4 => fr.inj j k ds es b (sub j ds h1).1 (sub k es h2).1 h3 h4, fun b h => fr.own b (own' b h).1, fun b o e n => ?_, fun b h => nn b (fr.tr0 b h), fun b z => nn b (fr.ztr b z), fun j b h => ?_⟩,
    keepN, fun b h => .inl (own' b h).1, nn⟩, std⟩
  · rw [gt_st] at h
    by_cases e : i = j
    · subst e
      rw [if_pos rfl, if_pos hi] at h
      cases h
      exact ⟨_, hv0, .dic std⟩
    · rw [if_neg e] at h
      obtain ⟨v, e1, r⟩ := fr.rel j sv h
      refine ⟨v, e1, r.mono (fun b o eb n => keepN b o eb fun z => n (.inl z)) (fun b z => .inl (z.elim (fun w => .inl (own' b w).1) .inr)) fun b bx o e2 e3 e4 => ?_⟩
      subst e2; subst e3
      rw [ne b fun eb => e (fr.inj i j _ _ a q h hv0 (eb ▸ e1))]
      exact e4
  · rw [ne b fun z => ?_]
    · exact fr.keep b o e n
    · subst z
      rcases (fr.own b ow).1 with w | w
      · exact n w
      · rw [w] at e; cases e
  · obtain ⟨h1, h2, h3, h4⟩ := fr.lnt j b h
    refine ⟨h1, ?_, nn b h3, fun k ds hk => h4 k ds (sub k ds hk).1⟩
    by_cases e : i = j
    · subst e; exact ⟨_, by rw [gt_st, if_pos rfl, if_pos hi]⟩
    · rw [gt_st, if_neg e]; exact h2
end
section
variable {X : Cx} {c : FCx} {W : WX} {a b e f : Expr} {fa fb fo : FE} {pos p apos cpos : Pos} {L : List Bool}
theorem sd_frz {i : Nat} {x : Str} (hN : X.N[i]? = some x) (hv : Vis X.env.scope x) (hd : (x == ("__debug__" : Str)) = false) (hcd : (x == ("__classdict__" : Str)) = false) : PE X (.Name x p) (tE c W (rFrz i)) := by
  refine PE_imp (pe_lockF (pe_slot hN hv hd hcd)) fun σ H Q ⟨Z, S, fr, h⟩ => ?_
  unfold rFrz at h
  split at h
  · rename_i kvs q
    split at h
    · rename_i ns e
      obtain ⟨v, hv0, a, xs, ev, ha, hk, hr⟩ := fr.rel i _ q
      subst ev
      have ex := dicI_rel hk hr e
      subst ex
      refine ⟨_, hv0, a, .dK (ns.map kiV), rfl, ha, True.intro, fun od => ?_⟩
      obtain ⟨st1, sd⟩ := fr.lock (ns := ns) q hv0 od
      have ez : ∀ b, Zt Z (tmpA (.ref a) (.tmp (.val (.dic ns)))) b → Z b := fun b z => Zt.nil z
      exact h _ _ ⟨st1.sub ez, .dic ⟨sd.1, fun z => sd.2 (z.elim .inl fun w => .inr (ez _ w))⟩, fun b hb => (by simp [tmpA] at hb)⟩
    · exact h.elim
  · exact h.elim
theorem sd_fd (ha : PE X a (tE c W fa)) (hb : PE X b (tE c W fb)) : PE X (.Dict [some a] [b] pos) (tE c W (rFd fa fb)) := by
  refine PE_imp (pe_lockF (pe_disp (pps_cons ha hb pps_nil) rfl rfl (by simp) (by simp))) fun σ H Q ⟨Z, S, fr, h⟩ p hp => ?_
  have k0 := upd_keep (o := .dK []) hp
  have zp : ∀ a, Zt Z [p] a → Z a ∨ a = p := fun a z => z.elim .inl fun z => .inr (by simpa using z)
  have fr1 : Fr c (Zt Z [p]) σ (upd H p (.dK [])) S := fr.add (fun a z => by
      rcases zp a z with z | z
      · exact trk_mono k0 a (fr.ztr a z)
      · subst z; exact upd_some) (fun a z => by
      rcases zp a z with z | z
      · exact .inl z
      · subst z; exact .inr hp) k0
  have s0 : Step c (Zt Z [p]) σ H S σ (upd H p (.dK [])) S := ⟨fr1, fun a o e _ => k0 a o e, fun _ h => .inl h, fun a h => trk_mono k0 a h⟩
  refine tE_bind (post := fun r => PostE c W Z σ H S r Q) fr1 h (fun i S' h => ExW.later h s0 zl) id fun x S1 h1 v H1 g1 => ?_
  refine tE_bind (post := fun r => PostE c W Z σ H S r Q) g1.step.fr h1 (fun i S' h => ExW.later (ExW.later h s0 zl) g1.step zl) id fun y S2 h2 u H2 g2 => ?_
  split at h2
  · rename_i i j e1 e2
    have a1 := g1.onto g2.step fun a z => z.elim .inl fun q => .inr (g2.new a q)
    have w1 := pk_vw g2.step.fr a1 e1
    have w2 := pk_vw g2.step.fr g2.ar e2
    cases w1.int
    cases w2.int
    have s3' : Step c (Zt Z [p]) σ (upd H p (.dK [])) S σ H2 S2 := (g1.step.trans g2.step).sub fun a z => .inl (.inl z)
    have hp2 : H2 p = some (.dK []) := s3'.keep p _ upd_same (fr.not_own hp)
    refine ⟨hp2, [(.inl i, .int j)], rfl, by simp, p, .dK [(.inl i, .int j)], rfl, upd_same, True.intro, fun od => h2 _ _ ?_⟩
    rw [upd_upd]
    have ne : ∀ a, a ≠ p → upd H2 p (.frz od (.dK [(.inl i, .int j)])) a = H2 a := fun a h => upd_ne h
    have kk : ∀ a o, H2 a = some o → a ≠ p → upd H2 p (.frz od (.dK [(.inl i, .int j)])) a = some o := fun a o e h => by rw [ne a h]; exact e
    have nn : ∀ a, H2 a ≠ none → upd H2 p (.frz od (.dK [(.inl i, .int j)])) a ≠ none := fun a h => by
      by_cases q : a = p
      · subst q; exact upd_some
      · rw [ne a q]; exact h
    have f := s3'.fr
    have pz : Zt Z [p] p := .inr (by simp)
    have fr2 : Fr c (Zt Z [p]) σ (upd H2 p (.frz od (.dK [(.inl i, .int j)]))) S2 :=
      ⟨f.len, fun i sv h => let ⟨v0, e, r⟩ := f.rel i sv h; ⟨v0, e, r.mono (fun a o e n => kk a o e fun q => n (.inr (q ▸ pz))) (fun _ z => .inl z) fun a ds xs e1 e2 e3 => kk a _ e3 fun q => by
          subst q; subst e1; subst e2
          exact (f.own _ ⟨i, ds, h, e⟩).2 pz⟩, f.inj, f.own,
        fun a o e n => kk a o (f.keep a o e n) fun q => by
          subst q
          exact fr.tr0 a (by rw [e]; intro z; cases z) hp,
        fun a h => nn a (f.tr0 a h), fun a z => nn a (f.ztr a z), fun i a h => let ⟨h1, h2, h3, h4⟩ := f.lnt i a h; ⟨h1, h2, nn a h3, h4⟩⟩
    have ez : ∀ b, Zt Z (tmpA (.ref p) (.tmp (.val (.dic [(i, j)])))) b → Z b := fun b z => Zt.nil z
    refine ⟨(Step.sub (Z' := Zt Z [p]) ⟨fr2, fun a o e n => kk a o (s3'.keep a o (k0 a o e) n) fun q => (by subst q; rw [hp] at e; cases e), fun a h => (s3'.ow a h).elim .inl fun q => .inr ?_, fun a h => nn a (s3'.tr a (trk_mono k0 a h))⟩ fun b z => .inl (ez b z)), ?_, fun a ha => ?_⟩
    · cases r : H a with
      | none => rfl
      | some o => rw [k0 a o r] at q; cases q
    · refine .dic ⟨⟨od, upd_same⟩, fun z => ?_⟩
      rcases z with z | z
      · exact (f.own p z).2 pz
      · exact fr.ztr p (ez p z) hp
    · simp [tmpA] at ha
  · exact h2.elim
theorem sd_dls (hc : X.calm = true) (gl : Gl X "list") (ml : X.mg "list" = none) (ha : PE X a (tE c W fa)) (hn : NS a) : PE X (.Call (.Name "list" p) [a] [] pos) (tE c W (rDls fa)) := by
  refine PE_imp (pe_callTy (call_listD hc) gl ml (by decide +kernel) (pa_cons ha pa_nil (star_cons hn)) (he := star_cons hn)) fun σ H Q ⟨Z, S, fr, h⟩ => ?_
  refine tE_bind (post := fun r => PostE c W Z σ H S r Q) fr h (fun _ _ h => h) id fun x S1 h1 v H1 g1 => ?_
  split at h1
  · rename_i ns q1
    obtain ⟨l, rfl, ⟨o, hl⟩, _⟩ := (pk_vw g1.step.fr g1.ar q1).dic
    refine ⟨l, _, rfl, .inr ⟨o, hl⟩, fun q hq => h1 _ _ (got_new fr g1.step zl ⟨q, _, hq, rfl, rfl, ?_⟩)⟩
    have e1 : (ns.map kiV).map (fun kv : Key × V => kV kv.1) = (ns.map fun p => p.1).map V.int := by
      rw [List.map_map, List.map_map]; rfl
    have e2 : (ns.map fun p => D.int p.1) = (ns.map fun p => p.1).map D.int := by rw [List.map_map]; rfl
    rw [e1, e2]
    exact Rps.ints
  · exact h1.elim
theorem dic_val (ns : List (Int × Int)) (k : Int) : valV (ns.map kiV) (Sum.inl k) = (dicGet ns k).map V.int := by
  unfold valV dicGet
  induction ns with
  | nil => rfl
  | cons p ns ih =>
    rw [List.map_cons, List.find?_cons, List.find?_cons]
    by_cases e : p.1 = k
    · have e1 : decide ((kiV p).1 = Sum.inl k) = true := decide_eq_true (by rw [kiV, e])
      rw [e1, decide_eq_true e]; rfl
    · have e1 : decide ((kiV p).1 = Sum.inl k) = false := decide_eq_false fun z => e (Sum.inl.inj z)
      rw [e1, decide_eq_false e]; exact ih
theorem sd_dgf (hK : c.K = X.K) (hu : X.A.units + 1 < cLine) (ho : PE X e (tE c W fo)) (ha : PE X a (tE c W fa)) (hb : PE X b (tE c W fb)) (m : M2 X e "get" apos a b cpos) : PE X (.Call (.Attribute e "get" apos) [a, b] [] cpos) (tE c W (rDgf fo fa fb)) := by
  refine PE_imp (pe_dget2B hu ho ha hb m) fun σ H Q ⟨Z, S, fr, h⟩ => ?_
  refine tE_bind (post := fun r => PostE c W Z σ H S r Q) fr h (fun _ _ h => h) id fun o S0 h0 v0 H0 g0 => ?_
  split at h0
  · rename_i ns q0
    obtain ⟨l, rfl, ⟨ob, hl⟩, no⟩ := (pk_vw g0.step.fr g0.ar q0).dic
    refine ⟨l, rfl, .inl ⟨_, .inr ⟨ob, hl⟩⟩, ?_⟩
    refine tE_bind (post := fun r => PostE c W Z σ H S r Q) g0.step.fr h0 (fun i S' h => ExW.later h g0.step zl) id fun x S1 h1 v H1 g1 => ?_
    refine tE_bind (post := fun r => PostE c W Z σ H S r Q) g1.step.fr h1 (fun i S' h => ExW.later (ExW.later h g0.step zl) g1.step zl) id fun y S2 h2 u H2 g2 => ?_
    split at h2
    · rename_i k n e1 e2
      have a1 := g1.onto g2.step fun a z => z.elim .inl fun q => .inr (g2.new a q)
      have w1 := pk_vw g2.step.fr a1 e1
      have w2 := pk_vw g2.step.fr g2.ar e2
      cases w1.int
      cases w2.int
      have k1 := g1.step.keep l _ hl fun z => no (.inl z)
      have n1 : ¬ Own σ S1 l := fun z => (g1.step.ow l z).elim (fun z => no (.inl z)) fun q => by rw [hl] at q; cases q
      have k2 := g2.step.keep l _ k1 n1
      refine ⟨_, .inl ⟨_, .inl k, .inr ⟨ob, k2⟩, rfl, rfl⟩, ?_⟩
      rw [dic_val]
      have e3 : ((dicGet ns k).map V.int).getD (.int n) = .int ((dicGet ns k).getD n) := by cases dicGet ns k <;> rfl
      rw [e3]
      exact h2 _ _ (got_new fr ((g0.step.trans g1.step).trans g2.step) (fun a z => .inl (.inl (.inl z))) new_int)
    · exact h2.elim
  · exact h0.elim
theorem sd_forI {t : Expr} {elts : List Expr} {kk : Nat} {tpos : Pos} {tg : Tg} {f : FSt} {body : List Stmt} (et : t = .Tuple elts kk tpos) (hp : PassesOwn (model X.prog X.w) X.A X.env X.xe) (hc : X.calm = true) (hi : PE X e (tE c W fa)) (hg : PG X t (tG c (asg L tg) tg.slots)) (hb : PSs X body (tS c W f))
    (hs : ∀ x, foldedSetIterable (.Call (.Attribute e "items" apos) [] [] cpos) X.env x = pure x) (hbase : attributeBase e "items" X.env (eval e X.env) = eval e X.env) (hline : (apos.endLine == cpos.line) = true) :
    PS X (.For t (.Call (.Attribute e "items" apos) [] [] cpos) body [] pos) (tS c W (sForI L fa tg f)) := by
  subst et
  refine PS_imp (ps_for hp hc (pi_items hi hbase hline) hg hb hs) fun E σ H ⟨Z, S, fr, h⟩ => ?_
  unfold sForI at h
  refine tE_toO fr h fun x S1 h1 v H1 g1 => ?_
  split at h1
  · rename_i ns q1
    obtain ⟨l, rfl, ⟨ob, hl⟩, no⟩ := (pk_vw g1.step.fr g1.ar q1).dic
    refine ⟨l, ob, ns.map kiV, rfl, hl, ?_⟩
    have s1 : Step c Z σ H S σ H1 S1 := g1.step.sub zl
    have n1 : ¬ Own σ S1 l := fun z => no (.inl z)
    have len : (kvItems ns).length = ns.length := by unfold kvItems; rw [List.length_map]
    have len2 : (ns.map kiV).length = ns.length := by rw [List.length_map]
    refine ⟨fun i m σ' H' => m + i = ns.length ∧ ∃ S', Step c Z σ H S σ' H' S' ∧ (H' l = some (.frz ob (.dK (ns.map kiV))) ∧ ¬ Own σ' S' l) ∧ PostS c W Z σ H S (forL L tg f ((kvItems ns).drop i) S') E, ⟨ns.length, rfl, S1, s1, ⟨hl, n1⟩, h1⟩, ?_⟩
    rintro i m σ3 H3 ⟨em, S3, s3, ⟨hl3, n3⟩, h3⟩
    by_cases hi : i < ns.length
    · have hi' : i < (kvItems ns).length := by omega
      refine .inr ⟨⟨hl3, by omega⟩, fun σ' H' => ∃ m', m' < m ∧ m' + (i + 1) = ns.length ∧ ∃ S', Step c Z σ H S σ' H' S' ∧ (H' l = some (.frz ob (.dK (ns.map kiV))) ∧ ¬ Own σ' S' l) ∧ PostS c W Z σ H S (forL L tg f ((kvItems ns).drop (i + 1)) S') E,
        fun σ' H' ⟨m', lt, e, r⟩ => ⟨m', lt, e, r⟩, fun x H4 y => ?_⟩
      rw [List.drop_eq_getElem_cons hi'] at h3
      obtain ⟨T, k, w, g1', rfl, hT, rfl⟩ := y
      have gk : (ns.map kiV)[i]? = some (kiV ns[i]) := by rw [List.getElem?_map, List.getElem?_eq_getElem hi]; rfl
      have ekw : (k, w) = kiV ns[i] := by rw [gk] at g1'; exact (Option.some.inj g1').symm
      have ek : k = Sum.inl ns[i].1 := congrArg Prod.fst ekw
      have ew : w = V.int ns[i].2 := congrArg Prod.snd ekw
      subst ek; subst ew
      have eit : (kvItems ns)[i] = .tup [.int ns[i].1, .int ns[i].2] := by simp [kvItems]
      have nw : New c.K (OO σ3 S3 Z) H3 (.val (kvItems ns)[i]) (.ref T) (upd H3 T (.tup [kV (Sum.inl ns[i].1), .int ns[i].2])) := by
        rw [eit]
        exact .inr ⟨T, _, _, rfl, hT, rfl, rfl, .cons (.int _) (.cons (.int _) .nil)⟩
      have gx := got_new s3.fr s3.fr.step (fun _ h => h) nw
      have z0 : ∀ a, Z a → Zt Z (tmpA (.ref T) (.tmp (.val (kvItems ns)[i]))) a := zl
      have s4 : Step c Z σ3 H3 S3 σ3 _ S3 := gx.step.sub z0
      have rx : Rp c.K _ (OO σ3 S3 Z) (.ref T) (kvItems ns)[i] := Rp.mono (fun _ _ e _ => e) (fun a z => .inl (z.elim .inl fun q => .inr (z0 a q))) gx.ar
      have hl4 := s4.keep l _ hl3 n3
      simp only [forL] at h3
      cases q2 : asg L tg (kvItems ns)[i] S3 with
      | none => rw [q2] at h3; exact h3.elim
      | some S4 =>
        rw [q2] at h3
        refine ⟨Z, S3, (kvItems ns)[i], S4, s4.fr, rx, q2, fun σ5 s5 _ => ?_⟩
        have s35 := (s3.trans s4).trans s5
        have h3 : PostS c W Z σ H S (match f S4 with
          | .nx S2 => forL L tg f ((kvItems ns).drop (i + 1)) S2
          | .ct S2 => forL L tg f ((kvItems ns).drop (i + 1)) S2
          | .bk S2 => .nx S2
          | o => o) E := h3
        refine ⟨Z, S4, s5.fr, ?_⟩
        have again : ∀ S6, PostS c W Z σ H S (forL L tg f ((kvItems ns).drop (i + 1)) S6) E → ∀ σ' H', Step c Z σ5 _ S4 σ' H' S6 → ∃ m', m' < m ∧ m' + (i + 1) = ns.length ∧ ∃ S', Step c Z σ H S σ' H' S' ∧ (H' l = some (.frz ob (.dK (ns.map kiV))) ∧ ¬ Own σ' S' l) ∧ PostS c W Z σ H S (forL L tg f ((kvItems ns).drop (i + 1)) S') E :=
          fun S6 h6 σ' H' s6 => by
            have s46 := s5.trans s6
            refine ⟨m - 1, by omega, by omega, S6, s35.trans s6, ⟨s46.keep l _ hl4 n3, fun z => ?_⟩, h6⟩
            rcases s46.ow l z with z | z
            · exact n3 z
            · rw [hl4] at z; cases z
        cases q3 : f S4 with
        | nx S6 => rw [q3] at h3; exact again S6 h3
        | ct S6 => rw [q3] at h3; exact again S6 h3
        | bk S6 => rw [q3] at h3; exact fun σ' H' st => h3 σ' H' (s35.trans st)
        | rt r S6 => rw [q3] at h3; exact fun v σ' H' st => h3 v σ' H' (st.after s35)
        | ex k S6 => rw [q3] at h3; exact fun σ' H' st => h3 σ' H' (s35.trans st)
        | no => rw [q3] at h3; exact h3
    · have ei : i = ns.length := by omega
      subst ei
      rw [← len, List.drop_length] at h3
      exact .inl ⟨⟨hl3, by omega⟩, h3 σ3 H3 s3⟩
  · exact h1.elim
end
end FL

set_option maxRecDepth 100000
set_option maxHeartbeats 4000000
/-! slot.count(int), the slot's own list all ints. -/
namespace FL
open PySem PySem.Spec PyProof.Rows L2
def rLct (i : Nat) (fb : FE) : FE := fun S => match gt S i with
  | some (.own (.lst _)) => (fb S).bind fun y S1 => match gt S1 i, pk S1 y with
    | some (.own (.lst ds)), some (.int k) => match intsOf ds with
      | some ns => .ok (.tmp (.val (.int ((ns.count k : Nat) : Int)))) S1
      | none => .no
    | _, _ => .no
  | _ => .no
section
variable {X : Cx} {c : FCx} {W : WX} {e : Expr} {fb : FE} {p apos cpos : Pos}
theorem sd_lct {i : Nat} {x : Str} (hK : c.K = X.K) (hN : X.N[i]? = some x) (hv : Vis X.env.scope x) (hd : (x == ("__debug__" : Str)) = false) (hcd : (x == ("__classdict__" : Str)) = false) (hl : (apos.endLine == cpos.line) = true)
    (ha : PE X e (tE c W fb)) (hn : NS e) (hfew : ((backTo cpos (starEach [e] X.env)).all (fun x => !x.1) && (backToKw cpos (keywordEach [] X.env)).all (fun x => x.1.isSome)
      && decide ([e].length + ([] : List Keyword).length + (if ([] : List Keyword).isEmpty then 0 else 1) < 30)) = true) :
    PE X (.Call (.Attribute (.Name x p) "count" apos) [e] [] cpos) (tE c W (rLct i fb)) := by
  refine PE_imp (pe_bm PySem.F.plainAttrs_list PySem.F.slot_list_count PySem.F.type_list_count mt_lcount (pe_slot hN hv hd hcd) (pa_cons ha pa_nil (star_cons hn)) rfl hfew hl (star_cons hn) rfl) fun σ H Q ⟨Z, S, fr, h⟩ => ?_
  unfold rLct at h
  split at h
  · rename_i ds0 q0
    obtain ⟨v, e1, a, xs, ev, hx, _⟩ := fr.rel i _ q0
    subst ev
    refine ⟨_, e1, .inl ⟨rfl, xs, .of hx⟩, ?_⟩
    refine tE_bind (post := fun r => PostE c W Z σ H S r Q) fr h (fun _ _ h => h) id fun y S1 h1 u H1 g1 => ?_
    split at h1
    · rename_i ds k q1 q2
      split at h1
      · rename_i ns q3
        have w := pk_vw g1.step.fr g1.ar q2
        cases w.int
        obtain ⟨v2, e2, a2, xs2, ev2, hx2, rr⟩ := g1.step.fr.rel i _ q1
        subst ev2
        rw [e1] at e2
        cases e2
        rw [intsOf_map q3] at rr
        have ei := rr.of_ints
        subst ei
        refine ⟨a, ns, k, rfl, rfl, .of hx2, h1 _ _ (got_new fr g1.step zl new_int)⟩
      · exact h1.elim
    · exact h1.elim
  · exact h.elim
end
end FL

set_option maxRecDepth 100000
set_option maxHeartbeats 4000000
/-! Instances of the error classes as values; isinstance of them; try .. except .. as e: name = f(e). -/
namespace FL
open PySem PySem.Spec PyProof.Rows L2

/-! ### new instances -/
theorem pinO_ok {P : Program} {w : World} {H : Hp} {h : Heap} {a : Addr} {oe : Obj} (e : h.get? a = some oe) : ObjOk P w H h a (PinO a oe) := ⟨e, ⟨oe, e⟩, fun _ _ q k => k oe q⟩
structure ExK (K : PySem.W.Frag) (mg : Str → Option Value) (cls : Nat → Addr) (x : Str) (k : Nat) : Prop where
  mg : mg x = some (.ref (cls k))
  exc : PySem.W.excIn K (cls k) [.type "ValueError", .type "Exception", .type "BaseException", .type "object"] "ValueError.__new__" = true
  kp : PySem.W.keepIn K (.ref (cls k)) = true
  sub : PySem.W.subIn K (.ref (cls k)) (.type "BaseException") = some true
  ty : PySem.W.typeIn K (.ref (cls k)) = some (.type "type")
  cl : cls k = exC K k
section
variable {X : Cx}
theorem pe_mkx {C : Addr} {bmB : List Value} {B newId initId : String} {x : Str} {e : Expr} {ta : TE} {p pos : Pos} (F : ExcBaseFacts B newId initId bmB) (q : PySem.W.excIn X.K C bmB newId = true) (gC : X.mg x = some (.ref C)) (kC : PySem.W.keepIn X.K (.ref C) = true) (hg : Gl X x)
    (he : PE X e ta) (hs : starEach [e] X.env = (false, eval e X.env) :: starEach [] X.env) (hdb : (x == ("__debug__" : Str)) = false) :
    PE X (.Call (.Name x p) [e] [] pos) (fun σ H Q => ta σ H fun _ H1 => ∀ (a : Addr) (oe : Obj) (vs : Array Value), H1 a = none → L2.Zc (.ref C) none oe → oe.data = .fields vs → vs[2]? = some Value.none → Q (V.ref a) (upd H1 a (PinO a oe))) := by
  refine ⟨fun pins s σ H Q I h => ?_⟩
  refine wpAny_Call_Name_kw (ld_glob I hg gC ?_ hdb)
  refine PySem.W.callWith_K (h₀ := X.base) I.ok.mod.kin kC ?_ hs (by rfl)
  rw [hs]
  show wpAny _ _ (spliced ((false, eval e X.env) :: backTo pos (starEach [] X.env))) _ _ s
  refine Calls.spliced_cons (thn (he.run pins s σ H _ I h) fun u s1 ⟨v, H1, I1, r1, q1⟩ => ?_)
  refine Calls.spliced_nil ⟨I1.kIn, ?_⟩
  show wpAny _ _ (call (.ref C) [u]) _ _ _
  obtain ⟨bm, N, nm, qn, bs, hdct, sn, sub, ab, col, dd, k0, k1, k2, k3, k5, mN, hC, hN, hni, T⟩ := exc_obj I1.kIn q
  refine wpAny_call_exc_subT F T hC hN hni (fun h' a hm => ?_) (by show 1 ≤ sizeLine; rw [sizeLine_eq]; omega)
  have hn : H1 a = none := I1.hok.gone hm.new
  obtain ⟨t, ht, _, _⟩ := hm.there
  exact ⟨.ref a, _, I1.laidN hm.keeps hm.new hn (pinO_ok ht), rfl, q1 a _ _ hn ⟨rfl, rfl⟩ rfl rfl⟩
end
def rMk (k : Nat) (fa : FE) : FE := fun S => (fa S).bind fun x S1 => .of ((pk S1 x).bind fun d => match d with
  | .str _ => some (Arg.tmp (.val (.exc k)))
  | _ => none) S1
section
variable {X : Cx} {c : FCx} {W : WX} {fa : FE} {a : Expr} {x : Str} {k : Nat} {p p2 pos : Pos}
theorem sd_mk (hK : c.K = X.K) (e : ExK X.K X.mg c.cls x k) (xf : XF X.K (exC X.K k)) (gl : Gl X x) (ha : PE X a (tE c W fa)) (hn : NS a) (hd : (x == ("__debug__" : Str)) = false) : PE X (.Call (.Name x p) [a] [] pos) (tE c W (rMk k fa)) := by
  refine PE_imp (pe_mkx PySem.F.excBase_ValueError e.exc e.mg e.kp gl ha (star_cons hn) hd) fun σ H Q ⟨Z, S, fr, h⟩ => ?_
  refine tE_bind (post := fun r => PostE c W Z σ H S r Q) fr h (fun _ _ h => h) id fun x S1 h1 v H1 g1 => ?_
  obtain ⟨r, e1, h3⟩ := of_post (post := fun r => PostE c W Z σ H S r Q) h1 id
  simp only [Option.bind_eq_some_iff] at e1
  obtain ⟨d, e2, e3⟩ := e1
  have er : r = Arg.tmp (.val (.exc k)) := by
    split at e3
    · exact (Option.some.inj e3).symm
    · cases e3
  subst er
  intro a oe vs hp hz hv h2
  have z0 : ∀ b, Zt Z (tmpA (.ref a) (.tmp (.val (.exc k)))) b → Z b := fun b z => by rw [tmpA_val] at z; exact Zt.nil z
  have x0 : Step c Z σ H S σ H1 S1 := g1.step.sub zl
  refine h3 _ _ ⟨(x0.trans (x0.fr.stepA (upd_keep hp))).sub z0, .exc ⟨⟨oe, vs, upd_same, ?_, hv, h2, ?_⟩, fun z => ?_⟩, fun b h => by rw [tmpA_val] at h; cases h⟩
  · rw [hK, ← e.cl]; exact hz
  · rw [hK]; exact xf
  · rcases z with z | z
    · exact x0.fr.not_own hp z
    · exact x0.fr.ztr a (z0 a z) hp
end

/-! ### isinstance -/
def isxD : List (List Bool) → D → Option Bool
  | [], _ => some false
  | ms :: r, .exc k => (ms[k]?).bind fun b => if b = true then some true else isxD r (.exc k)
  | _ :: _, _ => none
def rIsx (cs : List (List Bool)) (fa : FE) : FE := fun S => (fa S).bind fun x S1 => .of ((pk S1 x).bind fun d => (isxD cs d).map fun b => Arg.tmp (.val (.bl b))) S1
/-- a class as an isinstance names it, and what it answers -/
structure XcOk (X : Cx) (t : Expr) (ms : List Bool) (c : V) (u : Value) : Prop where
  cv : ClsV c u
  pe : PE X t (tC c)
  an : ∀ (k : Nat) (b : Bool), ms[k]? = some b → PySem.W.kitOne X.K (.ref (exC X.K k)) u = some b
section
variable {X : Cx} {c : FCx} {W : WX} {fa : FE} {a t : Expr} {p pos : Pos} {ms : List Bool} {v : V} {u : Value}
theorem sd_isx (hK : c.K = X.K) (gl : Gl X "isinstance") (mg : X.mg "isinstance" = none) (xc : XcOk X t ms v u) (ht : NS t) (ha : PE X a (tE c W fa)) (hn : NS a) : PE X (.Call (.Name "isinstance" p) [a, t] [] pos) (tE c W (rIsx [ms] fa)) := by
  refine PE_imp (pe_callB call_isiD gl mg (by decide +kernel) (pa_cons ha (pa_cons xc.pe pa_nil (star_cons ht)) (star_cons hn)) (by decide +kernel) (by decide +kernel) (star_cons hn) (by rw [star_cons ht]; rfl)) fun σ H Q ⟨Z, S, fr, h⟩ => ?_
  refine tE_bind (post := fun r => PostE c W Z σ H S r Q) fr h (fun _ _ h => h) id fun x S1 h1 y H1 g1 => ?_
  obtain ⟨r, e1, h3⟩ := of_post (post := fun r => PostE c W Z σ H S r Q) h1 id
  simp only [Option.bind_eq_some_iff, Option.map_eq_some_iff] at e1
  obtain ⟨d, e2, b, e3, rfl⟩ := e1
  have w := pk_vw g1.step.fr g1.ar e2
  rw [hK] at w
  cases d with
  | exc k =>
    simp only [isxD, Option.bind_eq_some_iff] at e3
    obtain ⟨b', e4, e5⟩ := e3
    have eb : b' = b := by
      cases b' with
      | true => simpa using e5
      | false => simpa [isxD] using e5
    subst eb
    exact ⟨_, .exc k, y, v, u, b', rfl, xc.cv, w, xc.an k b' e4, h3 _ _ (got_bl fr (g1.step.sub zl))⟩
  | _ => simp [isxD] at e3
end

/-! ### a def called in an except suite with the error -/
structure FnE (P : Program) (w : World) (K : PySem.W.Frag) (mg : Str → Option Value) (base : Heap) (f : Addr) (fd : FuncData) (px : Str) (tab : List (Nat × Sv)) : Prop where
  run : ∀ (A : Around) (outer : List Env) (s : Shared) (H : Hp) (args : Args) (Q : VK) (E : XK) (p : Addr × Obj) (k : Nat) (sv : Sv), L2H.RoomH 0 A → L2H.Hot1 A p → L2H.PinOk outer H s p → L2.Zc (.ref (exC K k)) none p.2 → (∃ vs, p.2.data = .fields vs) →
    tab.lookup k = some sv → Env0 P w K mg base A outer s H → BindsTo s fd args [(px, Value.ref p.1)] →
    (∀ v H', (∀ a o, H a = some o → H' a = some o) → (∀ O, SR K H' O v sv) → (∀ a ∈ tmpA v (.tmp sv), H a = none ∧ H' a ≠ none) → Q v H') → codeAny (model P w) A (.call (.ref f) args) (L2.CR (L2N.CX P w) outer P w H s Q E) s
section
variable {c : FCx} {Z : Addr → Prop} {σ : Slots} {H H' : Hp} {S : FS} {v : V} {sv : Sv}
theorem got_ext (fr : Fr c Z σ H S) (k : ∀ a o, H a = some o → H' a = some o) (sr : ∀ O, SR c.K H' O v sv) (nw : ∀ a ∈ tmpA v (.tmp sv), H a = none ∧ H' a ≠ none) : Got c Z σ H S H' S v (.tmp sv) := by
  have fr' : Fr c (Zt Z (tmpA v (.tmp sv))) σ H' S := fr.add (fun a z => by
    rcases z with z | z
    · exact trk_mono k a (fr.ztr a z)
    · exact (nw a z).2) (fun a z => by
    rcases z with z | z
    · exact .inl z
    · exact .inr (nw a z).1) k
  exact ⟨⟨fr', fun a o e _ => k a o e, fun a z => .inl z, fun a h => trk_mono k a h⟩, sr _, fun a h => (nw a h).1⟩
/-- a slot is given up -/
theorem Fr.drop (f : Fr c Z σ H S) {i : Nat} (hl : c.lent i = none) (u : Option V) : Step c Z σ H S (σ.set i u) H (st S i none) := by
  have gs : ∀ {j sv}, gt (st S i none) j = some sv → i ≠ j ∧ gt S j = some sv := fun {j sv} h => by
    rw [gt_st] at h
    by_cases e : i = j
    · rw [if_pos e] at h
      split at h <;> cases h
    · rw [if_neg e] at h; exact ⟨e, h⟩
  have ow : ∀ b, Own (σ.set i u) (st S i none) b → Own σ S b := fun b ⟨j, ds, h1, h2⟩ => by
    obtain ⟨e, h⟩ := gs h1
    rw [List.getElem?_set_ne e] at h2
    exact ⟨j, ds, h, h2⟩
  refine ⟨⟨by rw [List.length_set, st_len]; exact f.len, fun j sv h => ?_, fun j k ds es a h1 h2 h3 h4 => ?_, fun a h => f.own a (ow a h), f.keep, f.tr0, f.ztr, fun j a hj => ?_⟩, fun a o e _ => e, fun a h => .inl (ow a h), fun a h => h⟩
  · obtain ⟨e, h⟩ := gs h
    obtain ⟨w, e1, r⟩ := f.rel j sv h
    exact ⟨w, by rw [List.getElem?_set_ne e]; exact e1, r.mono (fun _ _ e _ => e) (fun b z => .inl (z.elim (fun q => .inl (ow b q)) .inr)) fun _ _ _ _ _ e => e⟩
  · obtain ⟨e1, g1⟩ := gs h1
    obtain ⟨e2, g2⟩ := gs h2
    rw [List.getElem?_set_ne e1] at h3
    rw [List.getElem?_set_ne e2] at h4
    exact f.inj j k ds es a g1 g2 h3 h4
  · obtain ⟨h1, ⟨sv, h2⟩, h3, h4⟩ := f.lnt j a hj
    have e : i ≠ j := fun z => by rw [z, hj] at hl; cases hl
    refine ⟨by rw [List.getElem?_set_ne e]; exact h1, ⟨sv, by rw [gt_st, if_neg e]; exact h2⟩, h3, fun k ds q1 q2 => ?_⟩
    obtain ⟨e2, g2⟩ := gs q1
    rw [List.getElem?_set_ne e2] at q2
    exact h4 k ds g2 q2
end
/-- what a call of the handler's def wishes -/
def tHot (K : PySem.W.Frag) (tab : List (Nat × Sv)) (i : Nat) (a : Addr) (cls : Value) (d : Option Addr) : TE := fun σ H Q => σ[i]? = some (some (.ref a)) ∧ ∃ k sv, cls = .ref (exC K k) ∧ d = none ∧ tab.lookup k = some sv ∧
  ∀ v H', (∀ b o, H b = some o → H' b = some o) → (∀ O, SR K H' O v sv) → (∀ b ∈ tmpA v (.tmp sv), H b = none ∧ H' b ≠ none) → Q v H'
theorem pe_hot {X : Cx} {n g px : Str} {f : Addr} {fd : FuncData} {tab : List (Nat × Sv)} {i : Nat} {p2 p3 p4 : Pos} {a : Addr} {oe : Obj} {cls : Value} {d : Option Addr} {pn : List (Addr × Obj)} (F : FnE X.prog X.w X.K X.mg X.base f fd px tab) (room : L2H.RoomH 0 X.A)
    (gl : Gl X g) (mg : X.mg g = some (.ref f)) (kp : PySem.W.keepIn X.K (.ref f) = true) (bd : Binds X.K fd [px] []) (hi : X.N[i]? = some n) (hv : Vis X.env.scope n) (n1 : (n == ("__debug__" : Str)) = false) (n2 : (n == ("__classdict__" : Str)) = false) (hdb : (g == ("__debug__" : Str)) = false)
    (hz : L2N.Zn cls d oe) (hf : ∃ vs, oe.data = .fields vs) : PE (X.suite a ((a, oe) :: pn)) (.Call (.Name g p2) [.Name n p3] [] p4) (tHot X.K tab i a cls d) := by
  have hs : starEach [Expr.Name n p3] (X.suite a ((a, oe) :: pn)).env = (false, eval (.Name n p3) (X.suite a ((a, oe) :: pn)).env) :: starEach [] (X.suite a ((a, oe) :: pn)).env := star_cons fun _ _ z => by cases z
  refine ⟨fun pins s σ H Q I h => ?_⟩
  obtain ⟨hσ, k, sv, rfl, rfl, ht, hq⟩ := h
  refine wpAny_Call_Name_kw (ld_glob (X := X.suite a ((a, oe) :: pn)) I gl mg ?_ hdb)
  have ha : PA (X.suite a ((a, oe) :: pn)) [.Name n p3] (tCons (tVar i) tNil) := pa_cons (pe_var (X := X.suite a ((a, oe) :: pn)) hi hv n1 n2) pa_nil hs
  refine PySem.W.callWith_K (h₀ := X.base) I.ok.mod.kin kp (thn (ha.run p4 pins s σ H (fun vs H1 => vs = [V.ref a] ∧ H1 = H) I ⟨.ref a, hσ, rfl, rfl⟩) fun us s1 ⟨vs, H1, I1, r, e1, e2⟩ => ⟨I1.kIn, ?_⟩) hs rfl
  subst e1; subst e2
  obtain ⟨u, us', rfl, ru, rr⟩ := (show ∃ u us', us = u :: us' ∧ RelV (V.ref a) u ∧ Vals [] us' by cases r with | cons a b => exact ⟨_, _, rfl, a, b⟩)
  cases rr
  cases (show u = Value.ref a from ru)
  have P1 := I1.pin (a, oe) (List.mem_append_left _ List.mem_cons_self)
  have hpin : L2H.PinOk X.stack H1 s1 (a, oe) := ⟨P1.1, P1.2.1, fun hm => (List.mem_cons.mp (I1.stkSub a hm)).elim P1.2.2.1 P1.2.2.2.1, P1.2.2.2.2⟩
  obtain ⟨vs, hv2⟩ := hf
  have b := bd s1 [.ref a] I1.kIn rfl
  refine wpAny_call (codeAny_mono (F.run (X.suite a ((a, oe) :: pn)).A X.stack s1 H1 ⟨[.ref a], []⟩ Q (fun _ _ _ => False) (a, oe) k sv ⟨room.dp, room.un⟩ ⟨rfl, vs, hv2, hz.2.2 vs hv2⟩ hpin hz.zc ⟨vs, hv2⟩ ht I1.env0 b hq) fun r s' hr => ?_)
  cases r with
  | error e =>
    obtain ⟨_, _, _, _, _, _, _, _, _, _, _, _, z⟩ := hr
    exact z.elim
  | ok fl =>
    cases fl with
    | ret u => exact I1.after hr
    | next => exact False.elim hr
    | brk => exact False.elim hr
    | cont => exact False.elim hr

/-! ### try -/
def rTry (L : List Bool) (ms : List Bool) (i j : Nat) (tab : List (Nat × Sv)) (b : FSt) : FSt := fun S => match b S with
  | .ex k S1 => (match ms[k]? with
    | some true => (match tab.lookup k with
      | some sv => if isL L i = false ∧ isL L j = false ∧ i ≠ j ∧ i < S1.length ∧ j < S1.length then .nx (st (st (st S1 i none) j (some sv)) i none) else .no
      | none => .no)
    | some false => .ex k S1
    | none => .no)
  | o => o
theorem sd_try {X : Cx} {c : FCx} {W : WX} {L ms : List Bool} {i j jx : Nat} {tab : List (Nat × Sv)} {fb : FSt} {body : List Stmt} {x n y g px : Str} {f : Addr} {fd : FuncData} {p p1 p2 p3 p4 p5 p6 pos : Pos} (hK : c.K = X.K) (hcl : ∀ k, c.cls k = exC X.K k) (hL : LOk c L) (tk : L2N.Takes X W)
    (hs : X.stack = X.env :: X.outer) (hf : X.env.frame = some X.env.locals) (hN : X.N.Nodup) (hi : X.N[i]? = some n) (hln : X.env.scope.names.lookup n = some .local) (hj : X.N[j]? = some y) (hjl : Loc X.env.scope y) (hjf : X.fn y = true ∨ X.env.scope.names.lookup y = some .local) (nm : Names X x (.ref (exC X.K jx)))
    (hms : ∀ (k : Nat) (b : Bool), ms[k]? = some b → PySem.W.exmOne X.K (.ref (exC X.K k)) (.ref (exC X.K jx)) = some b)
    (hb : ∀ (W' : WX) (pn : List (Addr × Obj)) (xe : Value → Shared → Prop), L2N.Takes (X.tr pn xe) W' → PassesOwn (model X.prog X.w) X.A X.env xe → PSs (X.tr pn xe) body (tS c W' fb))
    (F : FnE X.prog X.w X.K X.mg X.base f fd px tab) (room : L2H.RoomH 0 X.A) (gl : Gl X g) (mg : X.mg g = some (.ref f)) (kp : PySem.W.keepIn X.K (.ref f) = true) (bd : Binds X.K fd [px] []) (n1 : (n == ("__debug__" : Str)) = false) (n2 : (n == ("__classdict__" : Str)) = false) (hdb : (g == ("__debug__" : Str)) = false)
    (hsw : ∀ pos' : Pos, swapsWith (.Call (.Name g p2) [.Name n p3] [] p4) (some (.Name y pos')) pos.line X.env = pure false) :
    PS X (.Try body [.ExceptHandler (some (.Name x p1)) (some n) [.Assign [.Name y p] (.Call (.Name g p2) [.Name n p3] [] p4) pos] p5] [] [] p6) (tS c W (rTry L ms i j tab fb)) := by
  refine PS_imp (L2N.ps_try_as (tb := fun W' => tS c W' fb) (ts := fun a cls d D σ H => tHot X.K tab i a cls d σ H fun v H1 => D.nx (σ.set j (some v)) H1) hs hf hN hi hln nm tk hb fun a oe cls d pn hz hv => ?_) fun E σ H ⟨Z, S, fr, h⟩ => ⟨Z, S, fr, ?_⟩
  · refine PSs_imp (pss_cons (ps_set (X := X.suite a ((a, oe) :: pn)) hN hj hjl (pe_hot F room gl mg kp bd hi (.inl hln) n1 n2 hdb hz hv) (hsw _) hjf) pss_nil) fun D σ H h => ?_
    exact h
  · cases q : fb S with
    | ex k S1 =>
      have e0 : rTry L ms i j tab fb S = (match ms[k]? with
        | some true => (match tab.lookup k with
          | some sv => if isL L i = false ∧ isL L j = false ∧ i ≠ j ∧ i < S1.length ∧ j < S1.length then .nx (st (st (st S1 i none) j (some sv)) i none) else .no
          | none => .no)
        | some false => .ex k S1
        | none => .no) := by unfold rTry; rw [q]
      rw [e0] at h
      intro σ' H' st'
      cases em : ms[k]? with
      | none => rw [em] at h; exact h.elim
      | some b =>
        rw [em] at h
        cases b with
        | false => exact ⟨false, by rw [hcl]; exact hms k _ em, fun z => (by cases z), fun _ => h σ' H' st'⟩
        | true =>
          refine ⟨true, by rw [hcl]; exact hms k _ em, fun _ a ha => ?_, fun z => (by cases z)⟩
          cases et : tab.lookup k with
          | none => rw [et] at h; exact h.elim
          | some sv =>
            rw [et] at h
            dsimp only at h
            split at h
            · rename_i hc
              obtain ⟨c1, c2, c3, c4, c5⟩ := hc
              refine ⟨List.getElem?_set_self (by rw [st'.fr.len]; exact c4), k, sv, by rw [hcl], rfl, et, fun v H1 kk sr nw => ?_⟩
              have d1 := st'.fr.drop (hL.pin i c1) (some (.ref a))
              have g1 := got_ext (c := c) d1.fr kk (by rw [hK]; exact sr) nw
              have s1 : Step c Z _ _ _ (setAll [j] [v] (σ'.set i (some (.ref a)))) H1 (st (st S1 i none) j (some sv)) := g1.one.stored hL d1.fr (ss := [sv]) (S2 := st S1 i none) (is := [j]) rfl (by
                unfold stAll
                rw [if_pos ⟨c2, by rw [st_len]; exact c5⟩]
                rfl)
              exact h _ _ (st'.trans (d1.trans (s1.trans (s1.fr.drop (hL.pin i c1) none))))
            · exact h.elim
    | nx S1 => have e0 : rTry L ms i j tab fb S = .nx S1 := by unfold rTry; rw [q]
               rw [e0] at h; exact h
    | bk S1 => have e0 : rTry L ms i j tab fb S = .bk S1 := by unfold rTry; rw [q]
               rw [e0] at h; exact h
    | ct S1 => have e0 : rTry L ms i j tab fb S = .ct S1 := by unfold rTry; rw [q]
               rw [e0] at h; exact h
    | rt r S1 => have e0 : rTry L ms i j tab fb S = .rt r S1 := by unfold rTry; rw [q]
                 rw [e0] at h; exact h
    | no => have e0 : rTry L ms i j tab fb S = .no := by unfold rTry; rw [q]
            rw [e0] at h; exact h
end FL

set_option maxRecDepth 100000
set_option maxHeartbeats 4000000
/-! slot[k] += n, k and n numbers that stand there. -/
namespace FL
open PySem PySem.Spec PyProof.Rows L2

/-- xs[k], k from 0 on -/
def gLst (k : Nat) : V → V → Hp → VK → Prop := fun o i H Q => ∃ p xs z, o = .ref p ∧ i = .int (k : Int) ∧ H p = some (.lst xs) ∧ xs[k]? = some z ∧ Q z H
theorem get_lst {X : Cx} {k : Nat} (hk : k < 1000) : PGet X (gLst k) := by
  intro pins s σ H o i ov iv Q I ro ri h
  obtain ⟨p, xs, z, rfl, rfl, hp, hz, q⟩ := h
  cases ro
  obtain ⟨t, rfl⟩ := ri
  obtain ⟨its, n, r, ho, hl⟩ := I.lst hp
  obtain ⟨w, ew, rw'⟩ := r.get hz
  refine wpAny_getItem_list (items := its.toArray) ⟨_, ho, rfl, _, rfl⟩ (by omega) (by omega) (by simpa using ew) ?_
  exact ⟨z, H, I, rw', q⟩
def sSaug (i k : Nat) (n : Int) : FSt := fun S => match gt S i with
  | some (.own (.lst ds)) => (match ds[k]? with
    | some (.int a) => .nx (st S i (some (.own (.lst (ds.set k (.int (a + n)))))))
    | _ => .no)
  | _ => .no
theorem sd_saug {X : Cx} {c : FCx} {W : WX} {i k : Nat} {n : Int} {x : Str} {p p2 p3 p4 pos : Pos} {j j2 : Nat} (hN : X.N[i]? = some x) (hv : Vis X.env.scope x) (hd : (x == ("__debug__" : Str)) = false) (hcd : (x == ("__classdict__" : Str)) = false) (hk : k < 1000) :
    PS X (.AugAssign (.Subscript (.Name x p) (.Constant (.int (k : Int)) j p2) p3) .Add (.Constant (.int n) j2 p4) pos) (tS c W (sSaug i k n)) := by
  refine PS_imp (ps_augS (pe_slot hN hv hd hcd) pe_int (get_lst hk) pe_int ip_add set_list) fun E σ H ⟨Z, S, fr, h⟩ => ?_
  unfold sSaug at h
  split at h
  · rename_i ds q
    split at h
    · rename_i a q2
      obtain ⟨l, ls, e1, e2, e3⟩ := own_at fr q
      obtain ⟨z, h1, h2⟩ := e3.get q2
      cases h2
      have hl : k < ls.length := (List.getElem?_eq_some_iff.mp h1).1
      refine ⟨.ref l, e1, l, ls, .int a, rfl, rfl, e2, h1, a, n, rfl, rfl, l, ls, k, k, rfl, rfl, e2, ?_, ?_⟩
      · unfold ixN
        rw [if_pos (by omega), if_pos (by omega)]
        simp
      · exact h _ _ (fr.write q e1 e2 (e3.set (.int (a + n)) k))
    · exact h.elim
  · exact h.elim
end FL

set_option maxRecDepth 100000
set_option maxHeartbeats 4000000
/-! The program's defs in short form; how they are evaluated; how a text is held against its short form. -/
namespace FL
open PySem PySem.Spec PyProof.Rows L2

mutual
inductive Ex where
  | sl (i : Nat) | cs (d : D) | gl (x : Str) (d : D)
  | bin (o : BOp) (a b : Ex) | neg (a : Ex) | ix (a b : Ex) | cut (a : Ex) (l h : Oe) | ite (t : Tt) (a b : Ex) | tup (es : Exs) | lst (es : Exs)
  | bo (o : BoolOp) (es : Exs) | notV (a : Ex) | cmpV (o : COp) (a b : Ex) | chnV (o p : COp) (a b d : Ex)
  | mk (x : Str) (k : Nat) (a : Ex) | isx (cs : List (Str × List Bool)) (a : Ex)
  | blt (b : Blt) (es : Exs) | isi (ts : List Ty) (many : Bool) (a : Ex) | rep (a b : Ex) | mth (i : Nat) (m : Mth) (es : Exs) | ext (i : Nat) (a : Ex)
  | lc (tg : Tg) (it : Itx) (cd : Tts) (elt : Ex) (own : List Nat) | cal (id : Nat) (ks : List Str) (np : Nat) (perm : List Nat) (es gs : Exs) | lrg (a : Ex) | stl (a : Ex) (es : Exs) | u1 (o : U1) (a : Ex) | d0 (t : Bool) | d1 (es : Exs) (a : Ex) | rpl (es : Exs) | sct (i : Nat) (a : Ex) | idx (a b : Ex) | dgv (i : Nat) (a b : Ex) | frz (i : Nat) | fd (a b : Ex) | dls (a : Ex) | lct (i : Nat) (a : Ex) | dgf (o a b : Ex)
inductive Exs where
  | nil | cons (a : Ex) (r : Exs)
inductive Oe where
  | nil | some (a : Ex)
inductive Tt where
  | cmp (o : COp) (a b : Ex) | chn (o p : COp) (a b d : Ex) | not (t : Tt) | bo (o : BoolOp) (ts : Tts) | tru (a : Ex) | dcm (ne : Bool) (i j : Nat) | ite (t a b : Tt)
inductive Tts where
  | nil | cons (a : Tt) (r : Tts)
inductive Itx where
  | ex (a : Ex) | r1 (es : Exs) | r2 (es : Exs) | r3 (es : Exs) | enu (es : Exs) | zp (es : Exs) | zm (es : Exs)
end
mutual
inductive Sm where
  | sk | exp (e : Ex) | ifs (t : Tt) (a b : Sms) | set (i : Nat) (e : Ex) | setLc (i : Nat) (tg : Tg) (it : Itx) (cd : Tts) (elt : Ex) (own : List Nat) | par (sw : Bool) (is : List Nat) (es : Exs) | tgt (tg : Tg) (e : Ex) | ret (e : Ex) | retN
  | saug (i k : Nat) (n : Int)
  | tryE (b : Sms) (i j : Nat) (ms : List Bool) (g : Str) (tab : List (Nat × Sv))
  | aug (i : Nat) (o : BOp) (e : Ex) | sub (i : Nat) (k e : Ex) | dput (i : Nat) (k e : Ex) | dpt (i : Nat) (es : Exs) (e : Ex) | whl (t : Tt) (b : Sms) | for_ (tg : Tg) (it : Itx) (b : Sms) | fork (tg : Tg) (it : Itx) (b : Sms) | kput (i j : Nat) (es : Exs) (e : Ex) | fori (tg : Tg) (a : Ex) (b : Sms) | rse (x : Str) (k : Nat) | brk | cnt | no
inductive Sms where
  | nil | cons (s : Sm) (r : Sms)
end

section
variable (cl : Nat → List Sv → CR) (L : List Bool)
def rBoV (o : BoolOp) (fa fb : FE) : FE := match o with
  | .And => rAndV fa fb
  | .Or => rOrV fa fb
def rBoT (o : BoolOp) (f g : FT) : FT := match o with
  | .And => rAnd f g
  | .Or => rOr f g
mutual
def evE : Ex → FE
  | .sl i => rSlot i
  | .cs d => rCst d
  | .gl _ d => rCst d
  | .bin o a b => rBin o (evE a) (evE b)
  | .neg a => rNeg (evE a)
  | .ix a b => rIx (evE a) (evE b)
  | .cut a l h => rSl (evE a) (evO l) (evO h)
  | .ite t a b => rIte (evT t) (evE a) (evE b)
  | .tup es => rTup (evA es)
  | .lst es => rLst (evA es)
  | .bo o es => evB o es
  | .notV a => rNotV (evE a)
  | .cmpV o a b => rB2V (rCmp o (evE a) (evE b))
  | .chnV o p a b d => rB2V (rChn o p (evE a) (evE b) (evE d))
  | .blt b es => rBlt b (evA es)
  | .isi ts _ a => rIsi ts (evE a)
  | .mk _ k a => rMk k (evE a)
  | .isx cs a => rIsx (cs.map (·.2)) (evE a)
  | .rep a b => rRep (evE a) (evE b)
  | .mth i m es => rMth i m (evA es)
  | .ext i a => rExt i (evE a)
  | .lc tg it cd elt own => rLc L (evI it) tg (evC cd) (evE elt) own
  | .cal id ks np perm es gs => rCall (cl id) perm np ks.length (evA es) (evA gs)
  | .lrg a => rLrg (evE a)
  | .stl a es => rLst (rStar (evE a) (evA es))
  | .u1 o a => rU1 o (evE a)
  | .d0 t => rD0 t
  | .d1 es a => rD1 (evA es) (evE a)
  | .rpl es => rRpl (evA es)
  | .sct i a => rSct i (evE a)
  | .idx a b => rIdx (evE a) (evE b)
  | .dgv i a b => rDgv i (evE a) (evE b)
  | .frz i => rFrz i
  | .fd a b => rFd (evE a) (evE b)
  | .dls a => rDls (evE a)
  | .lct i a => rLct i (evE a)
  | .dgf o a b => rDgf (evE o) (evE a) (evE b)
def evA : Exs → FA
  | .nil => rNil
  | .cons a r => rCons (evE a) (evA r)
def evB (o : BoolOp) : Exs → FE
  | .nil => fun _ => .no
  | .cons a r => match r with
    | .nil => evE a
    | .cons _ _ => rBoV o (evE a) (evB o r)
def evO : Oe → FO
  | .nil => rONone
  | .some a => rOSome (evE a)
def evT : Tt → FT
  | .cmp o a b => rCmp o (evE a) (evE b)
  | .chn o p a b d => rChn o p (evE a) (evE b) (evE d)
  | .not t => rNot (evT t)
  | .bo o ts => evW o ts
  | .tru a => rTru (evE a)
  | .dcm ne i j => rDcm ne i j
  | .ite t a b => rIfT (evT t) (evT a) (evT b)
def evW (o : BoolOp) : Tts → FT
  | .nil => fun _ => .no
  | .cons a r => match r with
    | .nil => evT a
    | .cons _ _ => rBoT o (evT a) (evW o r)
def evC : Tts → FT
  | .nil => fun S => .ok true S
  | .cons a r => match r with
    | .nil => evT a
    | .cons _ _ => fun _ => .no
def evI : Itx → FI
  | .ex a => iEx (evE a)
  | .r1 es => iR1 (evA es)
  | .r2 es => iR2 (evA es)
  | .r3 es => iR3 (evA es)
  | .enu es => iEnu (evA es)
  | .zp es => iZp (evA es)
  | .zm es => iZm (evA es)
end
variable (nw : Nat)
mutual
def evS : Sm → FSt
  | .sk => sNil
  | .exp e => sExp (evE cl L e)
  | .ifs t a b => sIf (evT cl L t) (evSs a) (evSs b)
  | .set i e => sSet L i (evE cl L e)
  | .setLc i tg it cd elt own => sSet L i (rLc L (evI cl L it) tg (evC cl L cd) (evE cl L elt) own)
  | .par _ is es => sPut L is (evA cl L es)
  | .tgt tg e => sTgt L tg (evE cl L e)
  | .ret e => sRet L (evE cl L e)
  | .retN => sRetN
  | .aug i o e => sAug L i o (evE cl L e)
  | .sub i k e => sSub i (evE cl L k) (evE cl L e)
  | .dput i k e => sDput i (evE cl L k) (evE cl L e)
  | .dpt i es e => sDpt i (evA cl L es) (evE cl L e)
  | .kput i j es e => sKput L i j (evA cl L es) (evE cl L e)
  | .whl t b => sWhile (evT cl L t) (evSs b) nw
  | .for_ tg it b => sFor L (evI cl L it) tg (evSs b)
  | .fork tg it b => sForK L (evI cl L it) tg (evSs b)
  | .fori tg a b => sForI L (evE cl L a) tg (evSs b)
  | .rse _ k => fun S => .ex k S
  | .saug i k n => sSaug i k n
  | .tryE b i j ms _ tab => rTry L ms i j tab (evSs b)
  | .brk => .bk
  | .cnt => .ct
  | .no => fun _ => .no
def evSs : Sms → FSt
  | .nil => sNil
  | .cons s r => sSeq (evS s) (evSs r)
end
end

/-! ### the table of defs -/
structure Form where
  ks : List Str
  np : Nat
  perm : List Nat
structure FD where
  x : Str
  qual : Str
  ps : List Str
  N : List Str
  body : Sms
  forms : List Form
/-- a call of the id-th def, d: how deep calls go -/
def callF (T : List FD) (nw : Nat) : Nat → Nat → List Sv → CR
  | 0, _ => fun _ => .no
  | n + 1, id => match T[id]? with
    | none => fun _ => .no
    | some d => runF d.ps.length d.N.length fun L => evSs (callF T nw n) L nw d.body

/-! ### holding a text against its short form -/
inductive Gk where
  | bi | cn (d : D) | fn | ex (k : Nat) (ms : List Bool) | bx (ms : List Bool) | hot (tab : List (Nat × Sv))
structure Sx where
  N : List Str
  sc : Scope
  st : List (Str × NameKind)
def dbg : Str := "__debug__"
def cdc : Str := "__classdict__"
def nsB : Expr → Bool
  | .Starred .. => false
  | _ => true
def truOk : Expr → Bool
  | .UnaryOp .Not _ _ => false
  | .BoolOp .. => false
  | .IfExp .. => false
  | .Compare .. => false
  | _ => true
def notSet : Expr → Bool
  | .Set .. => false
  | _ => true
def lcX : Expr → Bool
  | .ListComp .. => true
  | _ => false
def calX : Expr → Bool
  | .Call _ (_ :: _) _ _ => true
  | _ => false
def subX : Expr → Bool
  | .Subscript .. => true
  | _ => false
def isTup : Expr → Bool
  | .Tuple .. => true
  | _ => false
def ixOk : Expr → Bool
  | .Slice .. => false
  | _ => true
def ownN (N : List Str) (own : List Nat) : List (Str × Nat) := own.map fun i => (N.getD i "", i)
section
variable (T : List FD) (G : List (Str × Gk)) 
def Sx.vis (q : Sx) (x : Str) : Bool := match q.sc.names.lookup x with
  | some .local => true
  | some .cell => true
  | some .free => true
  | _ => false
def Sx.loc (q : Sx) (x : Str) : Bool := match q.st.lookup x with
  | some .local => true
  | some .cell => true
  | _ => false
def Sx.slot (q : Sx) (i : Nat) (x : Str) : Bool := q.vis x && decide (q.N[i]? = some x) && !(x == dbg) && !(x == cdc)
def Sx.glb (q : Sx) (x : Str) : Bool := decide (q.sc.names.lookup x = some .globalImplicit)
def biG (G : List (Str × Gk)) (x : Str) : Bool := match G.lookup x with
  | some .bi => true
  | _ => false
def exG (G : List (Str × Gk)) (x : Str) (k : Nat) : Bool := match G.lookup x with
  | some (.ex j _) => decide (j = k)
  | _ => false
/-- the answers of isinstance(.., x) -/
def msG (G : List (Str × Gk)) (x : Str) (ms : List Bool) : Bool := match G.lookup x with
  | some (.ex _ l) => decide (l = ms)
  | some (.bx l) => decide (l = ms)
  | _ => false
def msE (G : List (Str × Gk)) (x : Str) (ms : List Bool) : Bool := match G.lookup x with
  | some (.ex _ l) => decide (l = ms)
  | _ => false
def eqSv : Sv → Sv → Bool
  | .val a, .val b => eqT a b
  | .own (.lst a), .own (.lst b) => eqTs a b
  | _, _ => false
def eqTab : List (Nat × Sv) → List (Nat × Sv) → Bool
  | [], [] => true
  | a :: as, b :: bs => decide (a.1 = b.1) && eqSv a.2 b.2 && eqTab as bs
  | _, _ => false
theorem eqSv_eq : ∀ {a b : Sv}, eqSv a b = true → a = b
  | .val a, .val b, h => by rw [eqT_eq (a := a) (b := b) h]
  | .own (.lst a), .own (.lst b), h => by rw [eqTs_eq (a := a) (b := b) h]
  | .val _, .own _, h => by cases h
  | .own (.lst _), .val _, h => by cases h
  | .own (.dk _), .val _, h => by cases h
  | .own (.dt _), .val _, h => by cases h
  | .own (.lst _), .own (.dk _), h => by cases h
  | .own (.lst _), .own (.dt _), h => by cases h
  | .own (.dk _), .own _, h => by cases h
  | .own (.dt _), .own _, h => by cases h
theorem eqTab_eq : ∀ {a b : List (Nat × Sv)}, eqTab a b = true → a = b
  | [], [], _ => rfl
  | (i, a) :: as, (j, b) :: bs, h => by
    simp only [eqTab, Bool.and_eq_true, decide_eq_true_eq] at h
    rw [h.1.1, eqSv_eq h.1.2, eqTab_eq h.2]
  | [], _ :: _, h => by simp [eqTab] at h
  | _ :: _, [], h => by simp [eqTab] at h
def hotG (G : List (Str × Gk)) (x : Str) (tab : List (Nat × Sv)) : Bool := match G.lookup x with
  | some (.hot l) => eqTab l tab
  | _ => false
def cstC : D → Const → Bool
  | .non, .none => true
  | .bl a, .bool b => a == b
  | .int a, .int b => decide (a = b)
  | .str a, .str b => decide (a = b)
  | _, _ => false
def chkTy (G : List (Str × Gk)) (q : Sx) : List Ty → List Expr → Bool
  | [], [] => true
  | t :: ts, .Name x _ :: es => decide (x = (t.py : Str)) && q.glb x && biG G x && chkTy G q ts es
  | _, _ => false
mutual
def chkTg (q : Sx) : Tg → Expr → Bool
  | .nm i, .Name x _ => q.loc x && decide (q.N[i]? = some x)
  | .tp ts, .Tuple es _ _ => chkTgs q ts es
  | _, _ => false
def chkTgs (q : Sx) : List Tg → List Expr → Bool
  | [], [] => true
  | t :: ts, e :: es => nsB e && chkTg q t e && chkTgs q ts es
  | _, _ => false
end
def formOk (T : List FD) (id : Nat) (x : Str) (ks : List Str) (np : Nat) (perm : List Nat) : Bool := match T[id]? with
  | some d => decide (d.x = x) && d.forms.any fun f => decide (f.ks = ks) && decide (f.np = np) && decide (f.perm = perm)
  | none => false
mutual
def chkE (q : Sx) : Ex → Expr → Bool
  | .sl i, e0 => match e0 with
    | .Name x _ => q.slot i x
    | _ => false
  | .cs d, e0 => match e0 with
    | .Constant k _ _ => cstC d k
    | _ => false
  | .gl y d, e0 => match e0 with
    | .Name x _ => decide (y = x) && q.glb x && !(x == dbg) && (match G.lookup x with
      | some (.cn d') => eqT d d'
      | _ => false)
    | _ => false
  | .bin o a b, e0 => match e0 with
    | .BinOp l op r _ => decide (op = o.py) && chkE q a l && chkE q b r
    | _ => false
  | .neg a, e0 => match e0 with
    | .UnaryOp .USub e _ => chkE q a e
    | _ => false
  | .ix a b, e0 => match e0 with
    | .Subscript l r _ => ixOk r && chkE q a l && chkE q b r
    | _ => false
  | .cut a l h, e0 => match e0 with
    | .Subscript e (.Slice lo hi none _) _ => chkE q a e && chkO q l lo && chkO q h hi
    | _ => false
  | .ite t a b, e0 => match e0 with
    | .IfExp c l r _ => chkT q t c && chkE q a l && chkE q b r
    | _ => false
  | .tup es, e0 => match e0 with
    | .Tuple xs _ _ => chkEs q es xs
    | _ => false
  | .lst es, e0 => match e0 with
    | .List xs _ => chkEs q es xs
    | _ => false
  | .stl a es, e0 => match e0 with
    | .List (.Starred e _ :: xs) _ => chkE q a e && chkEs q es xs
    | _ => false
  | .bo o es, e0 => match e0 with
    | .BoolOp p xs _ => decide (o = p) && chkEs q es xs && !xs.isEmpty
    | _ => false
  | .notV a, e0 => match e0 with
    | .UnaryOp .Not e _ => chkE q a e
    | _ => false
  | .cmpV o a b, e0 => match e0 with
    | .Compare l [op] [r] _ => decide (op = o.py) && !behindInMarks op r && chkE q a l && chkE q b r
    | _ => false
  | .chnV o p a b d, e0 => match e0 with
    | .Compare l [op, op2] [m, r] _ => decide (op = o.py) && decide (op2 = p.py) && !lastMarks [op, op2] [m, r] && chkE q a l && chkE q b m && chkE q d r
    | _ => false
  | .blt b es, e0 => match e0 with
    | .Call (.Name x _) xs [] _ => decide (x = (b.nm : Str)) && q.glb x && biG G x && !xs.isEmpty && chkEs q es xs
    | _ => false
  | .isi ts many a, e0 => match e0 with
    | .Call (.Name x _) [e, t] [] _ => decide (x = ("isinstance" : Str)) && q.glb x && biG G x && nsB e && chkE q a e && decide (ts.length ≤ 10) && (match many, ts, t with
      | false, [y], .Name z _ => chkTy G q [y] [t]
      | true, _, .Tuple ns _ _ => chkTy G q ts ns
      | _, _, _ => false)
    | _ => false
  | .mk x k a, e0 => match e0 with
    | .Call (.Name y _) [e] [] _ => decide (y = x) && q.glb x && exG G x k && nsB e && !(x == dbg) && chkE q a e
    | _ => false
  | .isx cs a, e0 => match cs, e0 with
    | [c], .Call (.Name y _) [e, .Name z _] [] _ => decide (y = ("isinstance" : Str)) && q.glb y && biG G y && nsB e && decide (z = c.1) && q.glb z && !(z == dbg) && msG G z c.2 && chkE q a e
    | _, _ => false
  | .rep a b, e0 => match e0 with
    | .BinOp l .Mult r _ => chkE q a l && chkE q b r
    | _ => false
  | .mth i m es, e0 => match e0 with
    | .Call (.Attribute (.Name x _) a ap) xs [] cp => q.slot i x && decide (a = (m.nm : Str)) && (ap.endLine == cp.line) && chkEs q es xs && decide (xs.length < 30)
    | _ => false
  | .ext i a, e0 => match e0 with
    | .Call (.Attribute (.Name x _) b ap) [e] [] cp => q.slot i x && decide (b = ("extend" : Str)) && (ap.endLine == cp.line) && nsB e && chkE q a e
    | _ => false
  | .lc tg it cd elt own, e0 => match e0 with
    | .ListComp e [⟨t, iter, fs, n⟩] scope _ => decide (n = 0) && blkC q.N q.sc scope (ownN q.N own) && tg.slots.all (fun i => own.contains i) && chkTg ⟨q.N, relS scope q.sc, scope.names⟩ tg t && chkI q it t iter && notSet iter && chkC ⟨q.N, relS scope q.sc, scope.names⟩ cd fs && chkE ⟨q.N, relS scope q.sc, scope.names⟩ elt e
    | _ => false
  | .cal id ks np perm es gs, e0 => match e0 with
    | .Call (.Name x _) xs kws _ => q.glb x && !(x == dbg) && formOk T id x ks np perm && perm.isPerm (List.range (np + ks.length)) && decide (xs.length = np) && decide (kws.length = ks.length) && chkEs q es xs && chkKs q gs kws ks
    | _ => false
  | .lrg a, e0 => match e0 with
    | .Call (.Name x _) [.Call (.Name y _) [e] [] _] [] _ => decide (x = ("list" : Str)) && decide (y = ("range" : Str)) && q.glb x && q.glb y && biG G x && biG G y && nsB e && chkE q a e
    | _ => false
  | .u1 .lset a, e0 => match e0 with
    | .Call (.Name x _) [.Call (.Name y _) [e] [] _] [] _ => decide (x = ("len" : Str)) && decide (y = ("set" : Str)) && q.glb x && q.glb y && biG G x && biG G y && nsB e && chkE q a e
    | _ => false
  | .u1 .tset a, e0 => match e0 with
    | .Call (.Name x _) [.Call (.Name y _) [e] [] _] [] _ => decide (x = ("len" : Str)) && decide (y = ("set" : Str)) && q.glb x && q.glb y && biG G x && biG G y && nsB e && chkE q a e
    | _ => false
  | .u1 .sset a, e0 => match e0 with
    | .Call (.Name x _) [.Call (.Name y _) [e] [] _] [] _ => decide (x = ("sorted" : Str)) && decide (y = ("set" : Str)) && q.glb x && q.glb y && biG G x && biG G y && nsB e && chkE q a e
    | _ => false
  | .u1 .tsort a, e0 => match e0 with
    | .Call (.Name x _) [e] [] _ => decide (x = ("sorted" : Str)) && q.glb x && biG G x && nsB e && chkE q a e
    | _ => false
  | .u1 .dct a, e0 => match e0 with
    | .Call (.Name x _) [e] [] _ => decide (x = ("dict" : Str)) && q.glb x && biG G x && nsB e && chkE q a e
    | _ => false
  | .u1 (.dix i) a, e0 => match e0 with
    | .Subscript (.Name x _) e _ => q.slot i x && ixOk e && chkE q a e
    | _ => false
  | .d0 _, e0 => match e0 with
    | .Dict [] [] _ => true
    | _ => false
  | .sct i b, e0 => match e0 with
    | .Call (.Attribute (.Name x _) a ap) [e] [] cp => q.slot i x && decide (a = ("count" : Str)) && (ap.endLine == cp.line) && nsB e && chkE q b e
    | _ => false
  | .idx a b, e0 => match e0 with
    | .Call (.Attribute o m ap) [e] [] cp => lcX o && decide (m = ("index" : Str)) && (ap.endLine == cp.line) && nsB e && chkE q a o && chkE q b e
    | _ => false
  | .dgv i a b, e0 => match e0 with
    | .Call (.Attribute (.Name x _) m ap) [e, f] [] cp => q.slot i x && decide (m = ("get" : Str)) && (ap.endLine == cp.line) && nsB e && nsB f && chkE q a e && chkE q b f
    | _ => false
  | .frz i, e0 => match e0 with
    | .Name x _ => q.slot i x
    | _ => false
  | .lct i b, e0 => match e0 with
    | .Call (.Attribute (.Name x _) a ap) [e] [] cp => q.slot i x && decide (a = ("count" : Str)) && (ap.endLine == cp.line) && nsB e && chkE q b e
    | _ => false
  | .fd a b, e0 => match e0 with
    | .Dict [some k] [e] _ => chkE q a k && chkE q b e
    | _ => false
  | .dls a, e0 => match e0 with
    | .Call (.Name x _) [e] [] _ => decide (x = ("list" : Str)) && q.glb x && biG G x && nsB e && chkE q a e
    | _ => false
  | .dgf o a b, e0 => match e0 with
    | .Call (.Attribute y m ap) [e, f] [] cp => calX y && decide (m = ("get" : Str)) && (ap.endLine == cp.line) && nsB e && nsB f && chkE q o y && chkE q a e && chkE q b f
    | _ => false
  | .rpl es, e0 => match e0 with
    | .Call (.Name x _) [.List xs _] [] _ => decide (x = ("repr" : Str)) && q.glb x && biG G x && chkEs q es xs
    | _ => false
  | .d1 es a, e0 => match e0 with
    | .Dict [some (.Tuple xs _ _)] [e] _ => chkEs q es xs && chkE q a e
    | _ => false
  | .u1 .rv2 a, e0 => match e0 with
    | .Subscript e (.Slice (some (.UnaryOp .USub (.Constant (.int j) _ _) _)) none (some (.UnaryOp .USub (.Constant (.int i) _ _) _)) _) _ => decide (i = 1) && decide (j = 2) && chkE q a e
    | _ => false
  | .u1 .rev a, e0 => match e0 with
    | .Subscript e (.Slice none none (some (.UnaryOp .USub (.Constant (.int i) _ _) _)) _) _ => decide (i = 1) && chkE q a e
    | _ => false
  | .u1 (.dgt _ _) _, _ => false
def chkEs (q : Sx) : Exs → List Expr → Bool
  | .nil, [] => true
  | .cons a r, e :: es => nsB e && chkE q a e && chkEs q r es
  | _, _ => false
def chkKs (q : Sx) : Exs → List Keyword → List Str → Bool
  | .nil, [], [] => true
  | .cons a r, ⟨some x, e, _⟩ :: es, k :: ks => decide (x = k) && chkE q a e && chkKs q r es ks
  | _, _, _ => false
def chkO (q : Sx) : Oe → Option Expr → Bool
  | .nil, none => true
  | .some a, some e => chkE q a e
  | _, _ => false
def chkT (q : Sx) : Tt → Expr → Bool
  | .cmp o a b, e0 => match e0 with
    | .Compare l [op] [r] _ => decide (op = o.py) && !behindInMarks op r && chkE q a l && chkE q b r
    | _ => false
  | .chn o p a b d, e0 => match e0 with
    | .Compare l [op, op2] [m, r] _ => decide (op = o.py) && decide (op2 = p.py) && !lastMarks [op, op2] [m, r] && chkE q a l && chkE q b m && chkE q d r
    | _ => false
  | .not t, e0 => match e0 with
    | .UnaryOp .Not e _ => chkT q t e
    | _ => false
  | .bo o ts, e0 => match e0 with
    | .BoolOp p xs _ => decide (o = p) && chkC q ts xs && !xs.isEmpty
    | _ => false
  | .dcm ne i j, e0 => match e0 with
    | .Compare (.Name x _) [op] [.Name y _] _ => decide (op = if ne = true then CmpOp.NotEq else CmpOp.Eq) && q.slot i x && q.slot j y
    | _ => false
  | .ite t a b, e0 => match e0 with
    | .IfExp c l r _ => chkT q t c && chkT q a l && chkT q b r
    | _ => false
  | .tru a, e => truOk e && chkE q a e
def chkC (q : Sx) : Tts → List Expr → Bool
  | .nil, [] => true
  | .cons a r, e :: es => chkT q a e && chkC q r es
  | _, _ => false
def chkI (q : Sx) : Itx → Expr → Expr → Bool
  | .ex a, _, e => chkE q a e
  | .r1 es, e0, e1 => match e0, e1 with
    | _, .Call (.Name x _) [a] [] _ => decide (x = ("range" : Str)) && q.glb x && biG G x && chkEs q es [a]
    | _, _ => false
  | .r2 es, e0, e1 => match e0, e1 with
    | _, .Call (.Name x _) [a, b] [] _ => decide (x = ("range" : Str)) && q.glb x && biG G x && chkEs q es [a, b]
    | _, _ => false
  | .r3 es, e0, e1 => match e0, e1 with
    | _, .Call (.Name x _) [a, b, d] [] _ => decide (x = ("range" : Str)) && q.glb x && biG G x && chkEs q es [a, b, d]
    | _, _ => false
  | .enu es, e0, e1 => match e0, e1 with
    | .Tuple .., .Call (.Name x _) [a] [] _ => decide (x = ("enumerate" : Str)) && q.glb x && biG G x && chkEs q es [a]
    | _, _ => false
  | .zp es, e0, e1 => match e0, e1 with
    | .Tuple .., .Call (.Name x _) [a, b] [] _ => decide (x = ("zip" : Str)) && q.glb x && biG G x && chkEs q es [a, b]
    | _, _ => false
  | .zm es, e0, e1 => match e0, e1 with
    | .Tuple .., .Call (.Name x _) [a, b] [] _ => decide (x = ("zip" : Str)) && q.glb x && biG G x && chkEs q es [a, b]
    | _, _ => false
end
/-- which way a, b = x, y goes -/
def swS (sc : Scope) (ts vs : List Expr) : Option (Option (List Str)) :=
  if !(ts.length == 2 || ts.length == 3) || vs.length != ts.length then some none
  else if vs.any (fun | .Starred .. => true | _ => false) then some none
  else
    let line := (ts.head?.map (·.pos.line)).getD 0
    let names := ts.filterMap fun
      | .Name id pos => if sc.names.lookup id == some .local && pos.line == line then some id else none
      | _ => none
    if names.length != ts.length || names.eraseDups.length != names.length then some none
    else if vs.all (foldedForSure 8) then some none
    else if vs.all (constantsAlone 8) then none
    else some (some names)
def notLc : Expr → Bool
  | .ListComp .. => false
  | .SetComp .. => false
  | .DictComp .. => false
  | _ => true
def noTup : Expr → Bool
  | .Tuple .. => false
  | _ => true
def chkNm (q : Sx) : List Nat → List Expr → Bool
  | [], [] => true
  | i :: is, .Name x _ :: es => q.loc x && decide (q.N[i]? = some x) && chkNm q is es
  | _, _ => false
def nmsOf : List Expr → List Str
  | .Name x _ :: es => x :: nmsOf es
  | _ => []
mutual
def chkS (q : Sx) : Sm → Stmt → Bool
  | .sk, e0 => match e0 with
    | .Pass _ => true
    | .Expr (.Constant (.str _) _ _) _ => true
    | _ => false
  | .exp e, e0 => match e0 with
    | .Expr v _ => notLc v && chkE T G q e v
    | _ => false
  | .ifs t a b, e0 => match e0 with
    | .If c x y _ => chkT T G q t c && chkSs q a x && chkSs q b y
    | _ => false
  | .set i e, e0 => match e0 with
    | .Assign [.Name x _] v _ => q.loc x && decide (q.N[i]? = some x) && notLc v && chkE T G q e v
    | _ => false
  | .setLc i tg it cd elt own, e0 => match e0 with
    | .Assign [.Name x py] (.ListComp e [⟨t, iter, fs, n⟩] scope pos) _ => decide (q.sc.names.lookup x = some .local) && decide (q.N[i]? = some x) && (py.line == pos.line) && !(scope.names.any fun (n, k) => n == x && (k == .local || k == .cell)) &&
      decide (n = 0) && blkC q.N q.sc scope (ownN q.N own) && tg.slots.all (fun i => own.contains i) && chkTg ⟨q.N, relS scope q.sc, scope.names⟩ tg t && chkI T G q it t iter && notSet iter && chkC T G ⟨q.N, relS scope q.sc, scope.names⟩ cd fs && chkE T G ⟨q.N, relS scope q.sc, scope.names⟩ elt e
    | _ => false
  | .par sw is es, e0 => match sw, e0 with
    | true, .Assign [.Tuple ts _ _] (.Tuple vs _ _) _ => chkNm q is ts && decide (swS q.sc ts vs = some (some (nmsOf ts))) && decide is.Nodup && chkEs T G q es vs
    | false, .Assign [.Tuple ts _ _] (.Tuple vs _ _) _ => chkNm q is ts && decide (swS q.sc ts vs = some none) && decide (is.length ≤ 100) && chkEs T G q es vs
    | _, _ => false
  | .tgt tg e, e0 => match e0 with
    | .Assign [.Tuple ts k p] v _ => noTup v && notLc v && chkTg q tg (.Tuple ts k p) && chkE T G q e v
    | _ => false
  | .ret e, e0 => match e0 with
    | .Return (some v) _ => chkE T G q e v
    | _ => false
  | .retN, e0 => match e0 with
    | .Return none _ => true
    | _ => false
  | .aug i o e, e0 => match e0 with
    | .AugAssign (.Name x _) op v _ => q.loc x && decide (q.N[i]? = some x) && decide (op = o.py) && (match o with | .add => true | .sub => true | _ => false) && chkE T G q e v
    | _ => false
  | .sub i k e, e0 => match e0 with
    | .Assign [.Subscript (.Name x _) b _] v _ => q.slot i x && ixOk b && notLc v && chkE T G q k b && chkE T G q e v
    | _ => false
  | .dput i k e, e0 => match e0 with
    | .Assign [.Subscript (.Name x _) b _] v _ => q.slot i x && notLc v && chkE T G q k b && chkE T G q e v
    | _ => false
  | .dpt i es e, e0 => match e0 with
    | .Assign [.Subscript (.Name x _) (.Tuple xs _ _) _] v _ => q.slot i x && notLc v && chkEs T G q es xs && chkE T G q e v
    | _ => false
  | .whl t b, e0 => match e0 with
    | .While c x [] _ => chkT T G q t c && chkSs q b x
    | _ => false
  | .fork tg it b, e0 => match e0 with
    | .For t iter x [] _ => chkTg q tg t && chkI T G q it t iter && notSet iter && chkSs q b x
    | _ => false
  | .fori tg a b, e0 => match e0 with
    | .For t (.Call (.Attribute e m ap) [] [] cp) x [] _ => isTup t && subX e && decide (m = ("items" : Str)) && (ap.endLine == cp.line) && chkTg q tg t && chkE T G q a e && chkSs q b x
    | _ => false
  | .for_ tg it b, e0 => match e0 with
    | .For t iter x [] _ => chkTg q tg t && chkI T G q it t iter && notSet iter && chkSs q b x
    | _ => false
  | .tryE b i j ms g tab, e0 => match e0 with
    | .Try body [.ExceptHandler (some (.Name x _)) (some n) [.Assign [.Name y _] (.Call (.Name g2 _) [.Name n2 _] [] _) _] _] [] [] _ => decide (g2 = g) && decide (n2 = n) && q.slot i n && decide (q.sc.names.lookup n = some .local) && q.loc y && decide (q.N[j]? = some y) && q.glb x && !(x == dbg) &&
      msE G x ms && q.glb g && !(g == dbg) && hotG G g tab && chkSs q b body
    | _ => false
  | .saug i k n, e0 => match e0 with
    | .AugAssign (.Subscript (.Name x _) (.Constant (.int a) _ _) _) .Add (.Constant (.int b) _ _) _ => q.slot i x && decide (a = (k : Int)) && decide (b = n) && decide (k < 1000)
    | _ => false
  | .rse x k, e0 => match e0 with
    | .Raise (some (.Call (.Name y _) [.Constant (.str _) _ _] [] _)) none _ => decide (y = x) && q.glb x && exG G x k && !(x == dbg)
    | _ => false
  | .brk, e0 => match e0 with
    | .Break _ => true
    | _ => false
  | .cnt, e0 => match e0 with
    | .Continue _ => true
    | _ => false
  | .no, _ => true
  | .kput _ _ _ _, _ => false
def chkSs (q : Sx) : Sms → List Stmt → Bool
  | .nil, [] => true
  | .cons s r, x :: xs => match s, x, xs with
    | .kput i j es e, .Assign [.Name z _] (.Tuple ys _ _) _, .Assign [.Subscript (.Name y _) (.Name z2 _) _] v _ :: ss => decide (z2 = z) && q.loc z && q.slot j z && q.slot i y && notLc v && chkEs T G q es ys && chkE T G q e v && chkSs q r ss
    | s, x, xs => chkS q s x && chkSs q r xs
  | _, _ => false
end
end
end FL

set_option maxRecDepth 100000
set_option maxHeartbeats 4000000
/-! What the evaluator says is what the machine does. -/
namespace FL
open PySem PySem.Spec PyProof.Rows L2

section
variable {X : Cx} {W : WX} {c : FCx} {k : Nat} {f : Addr} {fd : FuncData} {ps ks : List Str} {np n : Nat} {perm : List Nat} {sp : Sp} {x : Str} {p pos : Pos} {kws : List Keyword} {t tk : TA} {gs : FA} {F : List Sv → CR}
theorem pe_callGK0 (F : FnG X.prog X.w X.K X.mg X.base k f fd ps sp) (hr : Room k X.A) (hgd : X.A.guards = some []) (hg : Gl X x) (hm : X.mg x = some (.ref f)) (hk : PySem.W.keepIn X.K (.ref f) = true) (hb : KB X.K fd ps ks 0 perm) (tkW : L2N.Takes X W)
    (hkw : PK X kws tk) (hall : (backToKw pos (keywordEach kws X.env)).all (·.1.isSome) = true) (hks : (backToKw pos (keywordEach kws X.env)).filterMap (·.1) = ks)
    (hdb : (x == ("__debug__" : Str)) = false) (hpl : ((backTo pos (starEach [] X.env)).any (·.1) || (backToKw pos (keywordEach kws X.env)).any (·.1.isNone)) = false) :
    PE X (.Call (.Name x p) [] kws pos) (tCal W sp 0 ks.length perm tNil tk) := by
  refine ⟨fun pins s σ H Q I h => ?_⟩
  refine wpAny_Call_Name_kw (ld_glob I hg hm ?_ hdb)
  obtain ⟨_, h⟩ := h
  refine PySem.W.callWith_KW0 (h₀ := X.base) I.ok.mod.kin hk hall (thn (hkw.run pos pins s σ H _ I h) fun ws s2 ⟨zs, H2, I2, rz, hn2, q2⟩ => ⟨I2.kIn, ?_⟩) hpl
  rw [hks]
  exact run_fnG (us := []) (vs := []) F hr hgd hb tkW rfl (rz.length.symm.trans hn2) I2 .nil rz q2
theorem sd_callK0 (hK : c.K = X.K) (G : FnG X.prog X.w X.K X.mg X.base k f fd ps (spF X.K c.cls ps.length F)) (hr : Room k X.A) (hgd : X.A.guards = some []) (hg : Gl X x) (hm : X.mg x = some (.ref f)) (hk : PySem.W.keepIn X.K (.ref f) = true) (hb : KB X.K fd ps ks 0 perm) (tkW : L2N.Takes X W)
    (hp : perm.Perm (List.range (0 + ks.length))) (hkw : PK X kws (tA c W gs)) (hall : (backToKw pos (keywordEach kws X.env)).all (·.1.isSome) = true) (hks : (backToKw pos (keywordEach kws X.env)).filterMap (·.1) = ks)
    (hdb : (x == ("__debug__" : Str)) = false) (hpl : ((backTo pos (starEach [] X.env)).any (·.1) || (backToKw pos (keywordEach kws X.env)).any (·.1.isNone)) = false) :
    PE X (.Call (.Name x p) [] kws pos) (tE c W (rCall F perm 0 ks.length rNil gs)) := by
  refine PE_imp (pe_callGK0 G hr hgd hg hm hk hb tkW hkw hall hks hdb hpl) fun σ H Q h => ?_
  have q := sd_call_go rfl hp hb.len h
  rw [hK] at q
  obtain ⟨Z, S, fr, q⟩ := q
  exact q [] H (Gots.nil fr)
end

def Gk.ok (K : PySem.W.Frag) (mg : Str → Option Value) (cls : Nat → Addr) (x : Str) : Gk → Prop
  | .bi => mg x = none
  | .cn d => ∃ v u, mg x = some u ∧ RelV v u ∧ ∀ H O, Rp K H O v d
  | .fn => True
  | .ex k ms => ExK K mg cls x k ∧ XF K (exC K k) ∧ ∀ (i : Nat) (b : Bool), ms[i]? = some b → PySem.W.exmOne K (.ref (exC K i)) (.ref (exC K k)) = some b ∧ PySem.W.kitOne K (.ref (exC K i)) (.ref (exC K k)) = some b
  | .bx ms => x = "ValueError" ∧ mg x = none ∧ ∀ (i : Nat) (b : Bool), ms[i]? = some b → PySem.W.kitOne K (.ref (exC K i)) (.type "ValueError") = some b
  | .hot tab => cls = exC K ∧ ∃ f fd px, mg x = some (.ref f) ∧ PySem.W.keepIn K (.ref f) = true ∧ Binds K fd [px] [] ∧ ∀ (P : Program) (w : World) (base : Heap), FnE P w K mg base f fd px tab
structure Good (T : List FD) (G : List (Str × Gk)) (cl : Nat → List Sv → CR) (n : Nat) (L : List Bool) (c : FCx) (X : Cx) (q : Sx) (W : WX) : Prop where
  N : X.N = q.N
  sc : X.env.scope = q.sc
  nd : q.N.Nodup
  hK : c.K = X.K
  calm : X.calm = true
  gd : X.A.guards = some []
  room : Room n X.A
  tk : L2N.Takes X W
  loc : ∀ x, q.loc x = true → Loc X.env.scope x ∧ (X.fn x = true ∨ X.env.scope.names.lookup x = some .local)
  lok : LOk c L
  glob : ∀ x g, G.lookup x = some g → g.ok X.K X.mg c.cls x
  fns : ∀ (id : Nat) (d : FD), T[id]? = some d → ∃ f fd, FnG X.prog X.w X.K X.mg X.base n f fd d.ps (spF X.K c.cls d.ps.length (cl id)) ∧ X.mg d.x = some (.ref f) ∧ PySem.W.keepIn X.K (.ref f) = true ∧ ∀ fm ∈ d.forms, KB X.K fd d.ps fm.ks fm.np fm.perm

theorem look_map {f : Str → NameKind → NameKind} : ∀ (l : List (Str × NameKind)) (x : Str), (l.map fun p => (p.1, f p.1 p.2)).lookup x = (l.lookup x).map (f x)
  | [], _ => rfl
  | (n, k) :: l, x => by
    rw [List.map_cons, List.lookup_cons, List.lookup_cons]
    cases h : x == n with
    | true => rw [eq_of_beq h]; rfl
    | false => exact look_map l x
theorem relS_look (scope sc : Scope) (x : Str) : (relS scope sc).names.lookup x = (scope.names.lookup x).map fun k => if (k == .free && sc.kind == .function && sc.names.lookup x == some .cell) then .cell else k := by
  rw [← look_map (f := fun x k => if (k == .free && sc.kind == .function && sc.names.lookup x == some .cell) then .cell else k)]
  unfold relS
  congr 1
  refine List.map_congr_left fun ⟨n, k⟩ _ => ?_
  dsimp only
  split <;> rfl
section
variable {T : List FD} {G : List (Str × Gk)} {cl : Nat → List Sv → CR} {n nw : Nat} {L : List Bool} {c : FCx} {X : Cx} {q : Sx} {W : WX}
theorem Good.slot (g : Good T G cl n L c X q W) {i : Nat} {x : Str} (h : q.slot i x = true) : X.N[i]? = some x ∧ Vis X.env.scope x ∧ (x == ("__debug__" : Str)) = false ∧ (x == ("__classdict__" : Str)) = false := by
  unfold Sx.slot at h
  simp only [Bool.and_eq_true, decide_eq_true_eq, Bool.not_eq_true'] at h
  obtain ⟨⟨⟨h1, h2⟩, h3⟩, h4⟩ := h
  refine ⟨by rw [g.N]; exact h2, ?_, h3, h4⟩
  unfold Sx.vis at h1
  unfold Vis
  rw [g.sc]
  split at h1 <;> first | exact .inl (by assumption) | exact .inr (.inl (by assumption)) | exact .inr (.inr (by assumption)) | cases h1
theorem Good.gl (g : Good T G cl n L c X q W) {x : Str} (h : q.glb x = true) : Gl X x := by
  have h : q.sc.names.lookup x = some .globalImplicit := of_decide_eq_true h
  rw [← g.sc] at h
  exact h
theorem Good.bi (g : Good T G cl n L c X q W) {x : Str} (h : biG G x = true) : X.mg x = none := by
  unfold biG at h
  split at h
  · rename_i e; exact g.glob x _ e
  · cases h
theorem Good.u70 (g : Good T G cl n L c X q W) : X.A.units + 70 < cLine := by have := g.room.un; omega
theorem Good.u65 (g : Good T G cl n L c X q W) : X.A.units + 65 < cLine := by have := g.room.un; omega
theorem Good.blk (g : Good T G cl n L c X q W) (scope : Scope) (s : Shared) (H : Hp) (C : Addr) (cs : List (Str × Addr)) (fp : List Addr) :
    Good T G cl n L c (X.blk s H scope (compEnvC scope cs C X.env) fp) ⟨q.N, relS scope q.sc, scope.names⟩ WF := by
  have es : (compEnvC scope cs C X.env).scope = relS scope q.sc := by rw [← g.sc]; rfl
  refine ⟨g.N, es, g.nd, g.hK, g.calm, g.gd, g.room, fun u s' x => ?_, fun x h => ?_, g.lok, g.glob, g.fns⟩
  · obtain ⟨_, _, _, _, _, _, _, _, _, _, _, _, _, _, _, _, w⟩ := x
    exact w
  · unfold Sx.loc at h
    dsimp only at h
    show Loc (compEnvC scope cs C X.env).scope x ∧ ((scope.names.lookup x == some .cell) = true ∨ (compEnvC scope cs C X.env).scope.names.lookup x = some .local)
    unfold L2.Loc
    rw [es, relS_look]
    split at h
    · rename_i e; rw [e]; exact ⟨.inl rfl, .inr rfl⟩
    · rename_i e; rw [e]; exact ⟨.inr rfl, .inl rfl⟩
    · cases h
theorem ns_of {e : Expr} (h : nsB e = true) : NS e := fun v p z => by subst z; cases h
theorem nsEs : ∀ {es : Exs} {xs : List Expr}, chkEs T G q es xs = true → ∀ x ∈ xs, NS x
  | .nil, [], _ => fun _ h => nomatch h
  | .cons a r, x :: xs, h => by
    simp only [chkEs, Bool.and_eq_true] at h
    intro y hy
    rcases List.mem_cons.mp hy with e | hy
    · subst e; exact ns_of h.1.1
    · exact nsEs h.2 y hy
  | .nil, _ :: _, h => by simp [chkEs] at h
  | .cons _ _, [], h => by simp [chkEs] at h
theorem tru_of {e : Expr} {env : Env} (h : truOk e = true) : ∀ whole, isTrue e env whole = (do let v ← whole; standAt e.pos; holding [v] (truthy v)) := by
  intro whole
  cases e <;> first | rfl | (simp [truOk] at h; done) | skip
  rename_i op x pos
  cases op <;> first | rfl | (simp [truOk] at h; done)
theorem fold_of {e : Expr} {env : Env} (h : notSet e = true) : ∀ x, foldedSetIterable e env x = pure x := by
  intro x
  cases e <;> first | rfl | (simp [notSet] at h; done)
theorem ix_of {e : Expr} (h : ixOk e = true) : PlainIx e := by
  intro o i
  cases e <;> first | rfl | (simp [ixOk] at h; done)
theorem sd_gl {x : Str} {pos : Pos} {d d' : D} (g : Good T G cl n L c X q W) (h : q.glb x = true) (hd : (x == ("__debug__" : Str)) = false) (e : G.lookup x = some (.cn d')) (ed : eqT d d' = true) : PE X (.Name x pos) (tE c W (rCst d)) := by
  obtain ⟨v, u, e1, e2, e3⟩ := g.glob x _ e
  have := eqT_eq ed
  subst this
  exact sd_cst (pe_glob (g.gl h) e1 e2 hd) (by rw [g.hK]; exact e3)
theorem sd_const {d : D} {k : Const} {j : Nat} {pos : Pos} (h : cstC d k = true) : PE X (.Constant k j pos) (tE c W (rCst d)) := by
  unfold cstC at h
  split at h
  · exact sd_cst pe_non fun _ _ => .non
  · have := eq_of_beq h; subst this; exact sd_cst pe_bl fun _ _ => .bl _
  · have := of_decide_eq_true h; subst this; exact sd_cst pe_int fun _ _ => .int _
  · have := of_decide_eq_true h; subst this; exact sd_cst pe_str fun _ _ => .str _
  · cases h
end
end FL

set_option maxRecDepth 100000
set_option maxHeartbeats 4000000
/-! raise Cls("text"). -/
namespace FL
open PySem PySem.Spec PyProof.Rows L2
section
variable {X : Cx} {c : FCx} {W : WX} {x : Str} {k : Nat} {z : Str} {p1 p2 p3 p4 : Pos} {j : Nat}
theorem Good.exk {T : List FD} {G : List (Str × Gk)} {cl : Nat → List Sv → CR} {n : Nat} {L : List Bool} {q : Sx} (g : Good T G cl n L c X q W) (h : exG G x k = true) : ExK X.K X.mg c.cls x k := by
  unfold exG at h
  split at h
  · rename_i i ms e
    have := of_decide_eq_true h
    subst this
    exact (g.glob x _ e).1
  · cases h
theorem Good.exx {T : List FD} {G : List (Str × Gk)} {cl : Nat → List Sv → CR} {n : Nat} {L : List Bool} {q : Sx} (g : Good T G cl n L c X q W) (h : exG G x k = true) : XF X.K (exC X.K k) := by
  unfold exG at h
  split at h
  · rename_i i ms e
    have := of_decide_eq_true h
    subst this
    exact (g.glob x _ e).2.1
  · cases h
theorem Good.xc {T : List FD} {G : List (Str × Gk)} {cl : Nat → List Sv → CR} {n : Nat} {L : List Bool} {q : Sx} {ms : List Bool} (g : Good T G cl n L c X q W) (gl : Gl X x) (hd : (x == dbg) = false) (h : msG G x ms = true) : ∃ v u, XcOk X (.Name x p1) ms v u := by
  unfold msG at h
  split at h
  · rename_i i l e
    have := of_decide_eq_true h
    subst this
    obtain ⟨ek, _, a⟩ := g.glob x _ e
    refine ⟨.ref (exC X.K i), .ref (exC X.K i), .own _, ?_, fun k b hb => (a k b hb).2⟩
    rw [← ek.cl]
    exact pe_glob gl ek.mg rfl hd
  · rename_i l e
    have := of_decide_eq_true h
    subst this
    obtain ⟨rfl, e2, a⟩ := g.glob x _ e
    exact ⟨.ty "ValueError", .type "ValueError", .ty _, pe_bltn gl e2 (by decide +kernel) rfl (by decide +kernel) hd, fun k b hb => a k b hb⟩
  · cases h
theorem Good.ctch {T : List FD} {G : List (Str × Gk)} {cl : Nat → List Sv → CR} {n : Nat} {L : List Bool} {q : Sx} {ms : List Bool} (g : Good T G cl n L c X q W) (gl : Gl X x) (hd : (x == dbg) = false) (h : msE G x ms = true) : ∃ j, Names X x (.ref (exC X.K j)) ∧
    ∀ (k : Nat) (b : Bool), ms[k]? = some b → PySem.W.exmOne X.K (.ref (exC X.K k)) (.ref (exC X.K j)) = some b := by
  unfold msE at h
  split at h
  · rename_i i l e
    have := of_decide_eq_true h
    subst this
    obtain ⟨ek, _, a⟩ := g.glob x _ e
    exact ⟨i, ⟨gl, hd, .inl (by rw [← ek.cl]; exact ek.mg)⟩, fun k b hb => (a k b hb).1⟩
  · cases h
theorem Good.hot {T : List FD} {G : List (Str × Gk)} {cl : Nat → List Sv → CR} {n : Nat} {L : List Bool} {q : Sx} {tab : List (Nat × Sv)} (g : Good T G cl n L c X q W) (h : hotG G x tab = true) : c.cls = exC X.K ∧
    ∃ f fd px, X.mg x = some (.ref f) ∧ PySem.W.keepIn X.K (.ref f) = true ∧ Binds X.K fd [px] [] ∧ FnE X.prog X.w X.K X.mg X.base f fd px tab := by
  unfold hotG at h
  split at h
  · rename_i l e
    have := eqTab_eq h
    subst this
    obtain ⟨a, f, fd, px, b1, b2, b3, b4⟩ := g.glob x _ e
    exact ⟨a, f, fd, px, b1, b2, b3, b4 _ _ _⟩
  · cases h
theorem sd_rse (hc : X.calm = true) (tk : L2N.Takes X W) (e : ExK X.K X.mg c.cls x k) (gl : Gl X x) (hd : (x == dbg) = false) :
    PS X (.Raise (some (.Call (.Name x p1) [.Constant (.str z) j p2] [] p3)) none p4) (tS c W fun S => .ex k S) := by
  refine PS_imp (L2N.ps_raise hc tk (L2N.pmk_own PySem.F.excBase_ValueError e.exc e.mg e.kp (raises_own e.sub e.ty) gl hd)) fun E σ H ⟨Z, S, fr, h⟩ => ?_
  exact h σ H fr.step
end
end FL

set_option maxRecDepth 100000
set_option maxHeartbeats 8000000
/-! Expressions: the short form is what the machine does. -/
namespace FL
open PySem PySem.Spec PyProof.Rows L2

section
variable {T : List FD} {G : List (Str × Gk)} {cl : Nat → List Sv → CR} {n nw : Nat} {L : List Bool} {c : FCx} {X : Cx} {q : Sx} {W : WX}
theorem few_of {es : List Expr} {cpos : Pos} {env : Env} (h : ∀ x ∈ es, NS x) (hl : es.length < 30) : ((backTo cpos (starEach es env)).all (fun x => !x.1) && (backToKw cpos (keywordEach [] env)).all (fun x => x.1.isSome)
      && decide (es.length + ([] : List Keyword).length + (if ([] : List Keyword).isEmpty then 0 else 1) < 30)) = true := by
  have h1 : (backTo cpos (starEach es env)).all (fun x => !x.1) = true := by
    have := star_none (pos := cpos) (env := env) h
    rw [List.all_eq_true]
    intro x hx
    rw [List.any_eq_false] at this
    simpa using this x hx
  rw [h1]
  simpa [keywordEach, backToKw] using hl
theorem kws_of : ∀ {gs : Exs} {kws : List Keyword} {ks : List Str} {pos : Pos} {env : Env}, chkKs T G q gs kws ks = true →
    (backToKw pos (keywordEach kws env)).all (·.1.isSome) = true ∧ (backToKw pos (keywordEach kws env)).filterMap (·.1) = ks ∧ (backToKw pos (keywordEach kws env)).any (·.1.isNone) = false
  | .nil, [], [], _, _, _ => ⟨rfl, rfl, rfl⟩
  | .cons a r, ⟨some x, e, p⟩ :: es, k :: ks, pos, env, h => by
    simp only [chkKs, Bool.and_eq_true, decide_eq_true_eq] at h
    obtain ⟨⟨h1, h2⟩, h3⟩ := h
    obtain ⟨i1, i2, i3⟩ := kws_of (pos := pos) (env := env) h3
    subst h1
    refine ⟨?_, ?_, ?_⟩
    · show ((some x).isSome && (backToKw pos (keywordEach es env)).all (·.1.isSome)) = true
      rw [i1]; rfl
    · show x :: (backToKw pos (keywordEach es env)).filterMap (·.1) = _
      rw [i2]
    · show ((some x).isNone || (backToKw pos (keywordEach es env)).any (·.1.isNone)) = false
      rw [i3]; rfl
  | .cons _ _, ⟨none, _, _⟩ :: _, _, _, _, h => by simp [chkKs] at h
  | .cons _ _, [], _, _, _, h => by simp [chkKs] at h
  | .cons _ _, ⟨some _, _, _⟩ :: _, [], _, _, h => by simp [chkKs] at h
  | .nil, _ :: _, _, _, _, h => by simp [chkKs] at h
  | .nil, [], _ :: _, _, _, h => by simp [chkKs] at h
theorem PTs_imp {X : Cx} {es : List Expr} {t t' : TT} (h : PTs X es t) (i : ∀ σ H Q, t' σ H Q → t σ H Q) : PTs X es t' := ⟨fun pins s σ H Q I q => h.run pins s σ H Q I (i σ H Q q)⟩
theorem sd_cnil : PTs X [] (tT c W (fun S => .ok true S)) := PTs_imp pts_nil fun σ H Q ⟨Z, S, fr, h⟩ => h H fr.step
theorem ownN_snd (N : List Str) (own : List Nat) : (ownN N own).map (·.2) = own := by
  unfold ownN
  rw [List.map_map]
  exact List.map_id' own
theorem sd_lc {tg : Tg} {fi : FI} {cond : FT} {elt : FE} {own : List Nat} {e t iter : Expr} {fs : List Expr} {scope : Scope} {pos : Pos} (g : Good T G cl n L c X q W) (hb : blkC q.N q.sc scope (ownN q.N own) = true) (ho : tg.slots.all (fun i => own.contains i) = true)
    (hi : PI X t iter (tI c W fi)) (hg : ∀ (s : Shared) (H : Hp) (C : Addr) (cs : List (Str × Addr)) (fp : List Addr), PG (X.blk s H scope (compEnvC scope cs C X.env) fp) t (tG c (asg L tg) tg.slots))
    (hc : ∀ (s : Shared) (H : Hp) (C : Addr) (cs : List (Str × Addr)) (fp : List Addr), PTs (X.blk s H scope (compEnvC scope cs C X.env) fp) fs (tT c WF cond))
    (he : ∀ (s : Shared) (H : Hp) (C : Addr) (cs : List (Str × Addr)) (fp : List Addr), PE (X.blk s H scope (compEnvC scope cs C X.env) fp) e (tE c WF elt)) (hs : notSet iter = true) :
    PE X (.ListComp e [⟨t, iter, fs, 0⟩] scope pos) (tE c W (rLc L fi tg cond elt own)) := by
  have ok : BlkOk X.N X.env.scope scope (ownN q.N own) := by rw [g.N, g.sc]; exact blkOk_by hb
  refine PE_imp (pe_lc g.calm (by rw [g.N]; exact g.nd) hi ok hg hc he (fold_of hs)) fun σ H Q h => ?_
  rw [ownN_snd]
  exact lc_imp (K := X.K) g.lok (fun j hj => by simpa using List.all_eq_true.mp ho j hj) h
theorem sd_setLc {i : Nat} {x : Str} {py spos : Pos} {tg : Tg} {fi : FI} {cond : FT} {elt : FE} {own : List Nat} {e t iter : Expr} {fs : List Expr} {scope : Scope} {pos : Pos} (g : Good T G cl n L c X q W) (hb : blkC q.N q.sc scope (ownN q.N own) = true) (ho : tg.slots.all (fun i => own.contains i) = true)
    (hi : PI X t iter (tI c W fi)) (hg : ∀ (s : Shared) (H : Hp) (C : Addr) (cs : List (Str × Addr)) (fp : List Addr), PG (X.blk s H scope (compEnvC scope cs C X.env) fp) t (tG c (asg L tg) tg.slots))
    (hc : ∀ (s : Shared) (H : Hp) (C : Addr) (cs : List (Str × Addr)) (fp : List Addr), PTs (X.blk s H scope (compEnvC scope cs C X.env) fp) fs (tT c WF cond))
    (he : ∀ (s : Shared) (H : Hp) (C : Addr) (cs : List (Str × Addr)) (fp : List Addr), PE (X.blk s H scope (compEnvC scope cs C X.env) fp) e (tE c WF elt)) (hs : notSet iter = true)
    (hk : X.env.scope.kind = .function) (hx : q.sc.names.lookup x = some .local) (hN : q.N[i]? = some x) (hl : (py.line == pos.line) = true) (ha : (scope.names.any fun (n, k) => n == x && (k == .local || k == .cell)) = false) :
    PS X (.Assign [.Name x py] (.ListComp e [⟨t, iter, fs, 0⟩] scope pos) spos) (tS c W (sSet L i (rLc L fi tg cond elt own))) := by
  have ok : BlkOk X.N X.env.scope scope (ownN q.N own) := by rw [g.N, g.sc]; exact blkOk_by hb
  have hx' : X.env.scope.names.lookup x = some .local := by rw [g.sc]; exact hx
  refine PS_imp (ps_setLc g.calm (by rw [g.N]; exact g.nd) (by rw [g.N]; exact hN) hx' (sw_true hk hx' hl ha) hi ok hg hc he (fold_of hs)) fun E σ H h => ?_
  rw [ownN_snd]
  have h2 := set_go (E := E) g.lok h
  exact lc_imp (K := X.K) g.lok (fun j hj => by simpa using List.all_eq_true.mp ho j hj) h2
mutual
theorem sdTg : ∀ (tg : Tg) {X : Cx} {q : Sx} {W : WX} (g : Good T G cl n L c X q W) (e : Expr), chkTg q tg e = true → PG X e (tG c (asg L tg) tg.slots)
  | .nm i, X, q, W, g, e, h => by
    cases e <;> first | (simp [chkTg] at h; done) | skip
    simp only [chkTg, Bool.and_eq_true, decide_eq_true_eq] at h
    obtain ⟨h1, h2⟩ := g.loc _ h.1
    exact sd_nm g.lok (by rw [g.N]; exact g.nd) (by rw [g.N]; exact h.2) h1 h2
  | .tp ts, X, q, W, g, e, h => by
    cases e <;> first | (simp [chkTg] at h; done) | skip
    simp only [chkTg] at h
    obtain ⟨a, b, d⟩ := sdTgs ts g _ h
    exact sd_gtup g.hK g.calm a b d
theorem sdTgs : ∀ (ts : List Tg) {X : Cx} {q : Sx} {W : WX} (g : Good T G cl n L c X q W) (es : List Expr), chkTgs q ts es = true → PGs X es (tGs c (asgs L ts) (Tg.slotss ts)) ∧ (assignEach es X.env).length = ts.length ∧ (assignEach es X.env).findIdx? (·.1) = none
  | [], X, q, W, g, es, h => by
    cases es with
    | nil => exact ⟨sd_gnil, rfl, rfl⟩
    | cons => simp [chkTgs] at h
  | tg :: ts, X, q, W, g, es, h => by
    cases es with
    | nil => simp [chkTgs] at h
    | cons e es =>
      simp only [chkTgs, Bool.and_eq_true] at h
      obtain ⟨a, b, d⟩ := sdTgs ts g es h.2
      have e1 : assignEach (e :: es) X.env = (false, assign e X.env) :: assignEach es X.env := by
        have := h.1.1
        cases e <;> first | rfl | (simp [nsB] at this; done)
      refine ⟨sd_gcons (sdTg tg g e h.1.2) a (by rw [e1]; rfl), by rw [e1, List.length_cons, b]; rfl, by rw [e1, List.findIdx?_cons, d]; rfl⟩
end
theorem sdTy (g : Good T G cl n L c X q W) : ∀ (ts : List Ty) (ns : List Expr), chkTy G q ts ns = true → PA X ns (fun _ H Q => Q (ts.map fun t => V.ty t.py) H)
  | [], [], _ => pa_nil
  | t :: ts, [], h => by simp [chkTy] at h
  | [], _ :: _, h => by simp [chkTy] at h
  | t :: ts, e :: es, h => by
    cases e <;> first | (simp [chkTy] at h; done) | skip
    simp only [chkTy, Bool.and_eq_true, decide_eq_true_eq] at h
    obtain ⟨⟨⟨h1, h2⟩, h3⟩, h4⟩ := h
    subst h1
    have hb : bootBuiltins (t.py : Str) = some (.type t.py) := by cases t <;> decide +kernel
    have n1 : (t.py : Str) ≠ ("__name__" : Str) := by cases t <;> decide +kernel
    have n2 : ((t.py : Str) == ("__debug__" : Str)) = false := by cases t <;> decide +kernel
    exact PA_imp (pa_cons (pe_bltn (v := V.ty t.py) (g.gl h2) (g.bi h3) hb rfl n1 n2) (sdTy g ts es h4) rfl) fun σ H Q h => h
end
end FL

set_option maxRecDepth 100000
set_option maxHeartbeats 40000000
/-! Expressions: the short form is what the machine does. -/
namespace FL
open PySem PySem.Spec PyProof.Rows L2

section
variable {T : List FD} {G : List (Str × Gk)} {cl : Nat → List Sv → CR} {n nw : Nat} {L : List Bool} {c : FCx}
theorem isPerm_of {a b : List Nat} (h : a.isPerm b = true) : a.Perm b := List.isPerm_iff.mp h
theorem form_of {X : Cx} {q : Sx} {W : WX} (g : Good T G cl n L c X q W) {id : Nat} {x : Str} {ks : List Str} {np : Nat} {perm : List Nat} (h : formOk T id x ks np perm = true) :
    ∃ (d : FD) (f : Addr) (fd : FuncData), FnG X.prog X.w X.K X.mg X.base n f fd d.ps (spF X.K c.cls d.ps.length (cl id)) ∧ X.mg x = some (.ref f) ∧ PySem.W.keepIn X.K (.ref f) = true ∧ KB X.K fd d.ps ks np perm := by
  unfold formOk at h
  split at h
  · rename_i d e
    simp only [Bool.and_eq_true, decide_eq_true_eq, List.any_eq_true] at h
    obtain ⟨h1, fm, h2, ⟨h3, h4⟩, h5⟩ := h
    obtain ⟨f, fd, a, b, d2, k⟩ := g.fns id d e
    subst h3; subst h4; subst h5; subst h1
    exact ⟨d, f, fd, a, b, d2, k fm h2⟩
  · cases h
theorem lcX_base {a : Expr} {env : Env} {m : Str} (h : lcX a = true) : attributeBase a m env (eval a env) = eval a env := by
  cases a <;> first | rfl | (simp [lcX] at h; done)
theorem calX_base {a : Expr} {env : Env} {m : Str} (h : calX a = true) : attributeBase a m env (eval a env) = eval a env := by
  cases a <;> first | (simp [calX] at h; done) | skip
  rename_i f as ks p
  cases as with
  | nil => simp [calX] at h
  | cons x xs => cases f <;> rfl
theorem subX_base {a : Expr} {env : Env} {m : Str} (h : subX a = true) : attributeBase a m env (eval a env) = eval a env := by
  cases a <;> first | rfl | (simp [subX] at h; done)
theorem isTup_at {t : Expr} (h : isTup t = true) : ∃ elts kk tp, t = .Tuple elts kk tp := by
  cases t <;> first | (simp [isTup] at h; done) | exact ⟨_, _, _, rfl⟩
mutual
theorem sdE : ∀ (a : Ex) {X : Cx} {q : Sx} {W : WX} (g : Good T G cl n L c X q W) (e : Expr), chkE T G q a e = true → PE X e (tE c W (evE cl L a))
  | .sl i, X, q, W, g, e, h => by
    unfold chkE at h; split at h <;> first | (cases h; done) | skip
    obtain ⟨h1, h2, h3, h4⟩ := g.slot h
    exact sd_slot h1 h2 h3 h4
  | .cs d, X, q, W, g, e, h => by
    unfold chkE at h; split at h <;> first | (cases h; done) | skip
    exact sd_const h
  | .gl y d, X, q, W, g, e, h => by
    unfold chkE at h; split at h <;> first | (cases h; done) | skip
    simp only [Bool.and_eq_true, decide_eq_true_eq, Bool.not_eq_true'] at h
    obtain ⟨⟨⟨h1, h2⟩, h3⟩, h4⟩ := h
    split at h4
    · rename_i d' e
      exact sd_gl g h2 h3 e h4
    · cases h4
  | .bin o a b, X, q, W, g, e, h => by
    unfold chkE at h; split at h <;> first | (cases h; done) | skip
    simp only [Bool.and_eq_true, decide_eq_true_eq] at h
    obtain ⟨⟨h1, h2⟩, h3⟩ := h
    subst h1
    exact sd_bin g.hK (sdE a g _ h2) (sdE b g _ h3)
  | .neg a, X, q, W, g, e, h => by
    unfold chkE at h; split at h <;> first | (cases h; done) | skip
    exact sd_neg g.hK (sdE a g _ h)
  | .ix a b, X, q, W, g, e, h => by
    unfold chkE at h; split at h <;> first | (cases h; done) | skip
    simp only [Bool.and_eq_true] at h
    exact sd_ix g.hK (sdE a g _ h.1.2) (sdE b g _ h.2) (ix_of h.1.1)
  | .cut a l u, X, q, W, g, e, h => by
    unfold chkE at h; split at h <;> first | (cases h; done) | skip
    simp only [Bool.and_eq_true] at h
    exact sd_sl g.hK (sdE a g _ h.1.1) (sdO l g _ h.1.2) (sdO u g _ h.2)
  | .ite t a b, X, q, W, g, e, h => by
    unfold chkE at h; split at h <;> first | (cases h; done) | skip
    simp only [Bool.and_eq_true] at h
    exact sd_ite (sdT t g _ h.1.1) (sdE a g _ h.1.2) (sdE b g _ h.2)
  | .tup es, X, q, W, g, e, h => by
    unfold chkE at h; split at h <;> first | (cases h; done) | skip
    exact sd_tup (sdA es g _ h)
  | .lst es, X, q, W, g, e, h => by
    unfold chkE at h; split at h <;> first | (cases h; done) | skip
    exact sd_lst (sdA es g _ h)
  | .stl a es, X, q, W, g, e, h => by
    unfold chkE at h; split at h <;> first | (cases h; done) | skip
    simp only [Bool.and_eq_true] at h
    exact sd_lst (sd_star g.hK (sdE a g _ h.1) (sdA es g _ h.2))
  | .bo o es, X, q, W, g, e, h => by
    unfold chkE at h; split at h <;> first | (cases h; done) | skip
    simp only [Bool.and_eq_true, decide_eq_true_eq, Bool.not_eq_true'] at h
    obtain ⟨⟨h1, h2⟩, h3⟩ := h
    subst h1
    exact sdB o es g _ _ h2 h3
  | .notV a, X, q, W, g, e, h => by
    unfold chkE at h; split at h <;> first | (cases h; done) | skip
    exact sd_notV g.hK (sdE a g _ h)
  | .cmpV o a b, X, q, W, g, e, h => by
    unfold chkE at h; split at h <;> first | (cases h; done) | skip
    simp only [Bool.and_eq_true, decide_eq_true_eq, Bool.not_eq_true'] at h
    obtain ⟨⟨⟨h1, h2⟩, h3⟩, h4⟩ := h
    subst h1
    exact sd_cmpV g.hK g.u65 (sdE a g _ h3) (sdE b g _ h4) h2
  | .chnV o p a b d, X, q, W, g, e, h => by
    unfold chkE at h; split at h <;> first | (cases h; done) | skip
    simp only [Bool.and_eq_true, decide_eq_true_eq, Bool.not_eq_true'] at h
    obtain ⟨⟨⟨⟨⟨h1, h2⟩, h3⟩, h4⟩, h5⟩, h6⟩ := h
    subst h1; subst h2
    exact sd_chnV g.hK g.u65 (sdE a g _ h4) (sdE b g _ h5) (sdE d g _ h6) h3
  | .blt b es, X, q, W, g, e, h => by
    unfold chkE at h; split at h <;> first | (cases h; done) | skip
    simp only [Bool.and_eq_true, decide_eq_true_eq, Bool.not_eq_true'] at h
    obtain ⟨⟨⟨⟨h1, h2⟩, h3⟩, h4⟩, h5⟩ := h
    subst h1
    rename_i xs _
    cases xs with
    | nil => cases h4
    | cons x xs => exact sd_blt b g.hK g.calm g.gd g.u70 (g.gl h2) (g.bi h3) (sdA es g _ h5) (nsEs h5)
  | .isi ts many a, X, q, W, g, e, h => by
    unfold chkE at h; split at h <;> first | (cases h; done) | skip
    simp only [Bool.and_eq_true, decide_eq_true_eq] at h
    obtain ⟨⟨⟨⟨⟨⟨h1, h2⟩, h3⟩, h4⟩, h5⟩, h6⟩, h7⟩ := h
    subst h1
    split at h7
    · have h7' := h7
      simp only [chkTy, Bool.and_eq_true, decide_eq_true_eq] at h7
      obtain ⟨⟨⟨k1, k2⟩, k3⟩, _⟩ := h7
      subst k1
      exact sd_isi g.hK (g.gl h2) (g.bi h3) (g.gl k2) (g.bi k3) (sdE a g _ h5) (ns_of h4)
    · exact sd_isiT g.hK (g.gl h2) (g.bi h3) h6 (sdTy g _ _ h7) (sdE a g _ h5) (ns_of h4)
    · cases h7
  | .mk x k a, X, q, W, g, e, h => by
    unfold chkE at h; split at h <;> first | (cases h; done) | skip
    simp only [Bool.and_eq_true, decide_eq_true_eq, Bool.not_eq_true'] at h
    obtain ⟨⟨⟨⟨⟨h1, h2⟩, h3⟩, h4⟩, h5⟩, h6⟩ := h
    subst h1
    exact sd_mk g.hK (g.exk h3) (g.exx h3) (g.gl h2) (sdE a g _ h6) (ns_of h4) h5
  | .isx cs a, X, q, W, g, e, h => by
    unfold chkE at h; split at h <;> first | (cases h; done) | skip
    simp only [Bool.and_eq_true, decide_eq_true_eq, Bool.not_eq_true'] at h
    obtain ⟨⟨⟨⟨⟨⟨⟨⟨h1, h2⟩, h3⟩, h4⟩, h5⟩, h6⟩, h7⟩, h8⟩, h9⟩ := h
    subst h1; subst h5
    obtain ⟨v, u, xc⟩ := g.xc (g.gl h6) h7 h8
    exact sd_isx g.hK (g.gl h2) (g.bi h3) xc (fun _ _ z => by cases z) (sdE a g _ h9) (ns_of h4)
  | .rep a b, X, q, W, g, e, h => by
    unfold chkE at h; split at h <;> first | (cases h; done) | skip
    simp only [Bool.and_eq_true] at h
    exact sd_rep g.hK (sdE a g _ h.1) (sdE b g _ h.2)
  | .mth i m es, X, q, W, g, e, h => by
    unfold chkE at h; split at h <;> first | (cases h; done) | skip
    simp only [Bool.and_eq_true, decide_eq_true_eq] at h
    obtain ⟨⟨⟨⟨h1, h2⟩, h3⟩, h4⟩, h5⟩ := h
    subst h2
    obtain ⟨k1, k2, k3, k4⟩ := g.slot h1
    rename_i xs _
    cases xs with
    | nil =>
      cases es with
      | nil => exact sd_mth0 g.hK k1 k2 k3 k4 h3
      | cons => simp [chkEs] at h4
    | cons x xs => exact sd_mth g.hK k1 k2 k3 k4 h3 (sdA es g _ h4) (nsEs h4) (few_of (nsEs h4) h5)
  | .ext i a, X, q, W, g, e, h => by
    unfold chkE at h; split at h <;> first | (cases h; done) | skip
    simp only [Bool.and_eq_true, decide_eq_true_eq] at h
    obtain ⟨⟨⟨⟨h1, h2⟩, h3⟩, h4⟩, h5⟩ := h
    subst h2
    obtain ⟨k1, k2, k3, k4⟩ := g.slot h1
    have ns : ∀ x ∈ [_], NS x := fun x hx => by rw [List.mem_singleton.mp hx]; exact ns_of h4
    exact sd_ext g.hK k1 k2 k3 k4 h3 (sdE a g _ h5) (ns_of h4) (few_of ns (by simp))
  | .lc tg it cd elt own, X, q, W, g, e, h => by
    unfold chkE at h; split at h <;> first | (cases h; done) | skip
    simp only [Bool.and_eq_true, decide_eq_true_eq] at h
    obtain ⟨⟨⟨⟨⟨⟨⟨h1, h2⟩, h3⟩, h4⟩, h5⟩, h6⟩, h7⟩, h8⟩ := h
    subst h1
    exact sd_lc g h2 h3 (sdI it g _ _ h5) (fun s H C cs fp => sdTg tg (g.blk _ s H C cs fp) _ h4) (fun s H C cs fp => sdC cd (g.blk _ s H C cs fp) _ h7) (fun s H C cs fp => sdE elt (g.blk _ s H C cs fp) _ h8) h6
  | .cal id ks np perm es gs, X, q, W, g, e, h => by
    unfold chkE at h; split at h <;> first | (cases h; done) | skip
    simp only [Bool.and_eq_true, decide_eq_true_eq, Bool.not_eq_true'] at h
    obtain ⟨⟨⟨⟨⟨⟨⟨h1, h2⟩, h3⟩, h4⟩, h5⟩, h6⟩, h7⟩, h8⟩ := h
    obtain ⟨d, f, fd, F, m, kp, kb⟩ := form_of g h3
    have pm := isPerm_of h4
    rename_i xs kws _
    obtain ⟨w1, w2, w3⟩ := kws_of (pos := _) (env := X.env) h8
    cases xs with
    | nil =>
      subst h5
      cases es with
      | cons => simp [chkEs] at h7
      | nil =>
        cases kws with
        | nil =>
          cases ks with
          | cons => cases h6
          | nil =>
            cases gs with
            | cons => simp [chkKs] at h8
            | nil => exact sd_call0 g.hK F g.room g.gd (g.gl h1) m kp kb g.tk pm h2
        | cons kw kws => exact sd_callK0 g.hK F g.room g.gd (g.gl h1) m kp kb g.tk pm (sdK gs g _ _ h8) w1 w2 h2 (by rw [w3]; rfl)
    | cons x xs =>
      have ns := nsEs h7
      cases kws with
      | nil =>
        cases ks with
        | cons => cases h6
        | nil =>
          cases gs with
          | cons => simp [chkKs] at h8
          | nil => exact sd_call g.hK F g.room g.gd (g.gl h1) m kp kb g.tk pm (sdA es g _ h7) h2 ns
      | cons kw kws => exact sd_callK g.hK F g.room g.gd (g.gl h1) m kp kb g.tk pm (sdA es g _ h7) (sdK gs g _ _ h8) w1 w2 h2 ns (by rw [w3, star_none ns]; rfl)
  | .lrg a, X, q, W, g, e, h => by
    unfold chkE at h; split at h <;> first | (cases h; done) | skip
    simp only [Bool.and_eq_true, decide_eq_true_eq] at h
    obtain ⟨⟨⟨⟨⟨⟨⟨h1, h2⟩, h3⟩, h4⟩, h5⟩, h6⟩, h7⟩, h8⟩ := h
    subst h1; subst h2
    exact sd_lrg g.hK g.calm (g.gl h3) (g.bi h5) (g.gl h4) (g.bi h6) (sdE a g _ h8) (ns_of h7)
  | .u1 .lset a, X, q, W, g, e, h => by
    unfold chkE at h; split at h <;> first | (cases h; done) | skip
    simp only [Bool.and_eq_true, decide_eq_true_eq] at h
    obtain ⟨⟨⟨⟨⟨⟨⟨h1, h2⟩, h3⟩, h4⟩, h5⟩, h6⟩, h7⟩, h8⟩ := h
    subst h1; subst h2
    exact sd_lset g.hK g.calm (g.gl h3) (g.bi h5) (g.gl h4) (g.bi h6) (sdE a g _ h8) (ns_of h7)
  | .u1 .rev a, X, q, W, g, e, h => by
    unfold chkE at h; split at h <;> first | (cases h; done) | skip
    simp only [Bool.and_eq_true, decide_eq_true_eq] at h
    obtain ⟨h1, h2⟩ := h
    subst h1
    exact sd_rev g.hK (sdE a g _ h2)
  | .u1 .tset a, X, q, W, g, e, h => by
    unfold chkE at h; split at h <;> first | (cases h; done) | skip
    simp only [Bool.and_eq_true, decide_eq_true_eq] at h
    obtain ⟨⟨⟨⟨⟨⟨⟨h1, h2⟩, h3⟩, h4⟩, h5⟩, h6⟩, h7⟩, h8⟩ := h
    subst h1; subst h2
    exact sd_tset g.hK (by have := g.u65; omega) g.calm (g.gl h3) (g.bi h5) (g.gl h4) (g.bi h6) (sdE a g _ h8) (ns_of h7)
  | .u1 .sset a, X, q, W, g, e, h => by
    unfold chkE at h; split at h <;> first | (cases h; done) | skip
    simp only [Bool.and_eq_true, decide_eq_true_eq] at h
    obtain ⟨⟨⟨⟨⟨⟨⟨h1, h2⟩, h3⟩, h4⟩, h5⟩, h6⟩, h7⟩, h8⟩ := h
    subst h1; subst h2
    exact sd_sset g.hK g.calm (g.gl h3) (g.bi h5) (g.gl h4) (g.bi h6) (sdE a g _ h8) (ns_of h7)
  | .u1 .tsort a, X, q, W, g, e, h => by
    unfold chkE at h; split at h <;> first | (cases h; done) | skip
    simp only [Bool.and_eq_true, decide_eq_true_eq] at h
    obtain ⟨⟨⟨⟨h1, h2⟩, h3⟩, h4⟩, h5⟩ := h
    subst h1
    exact sd_tsort g.hK g.u70 (g.gl h2) (g.bi h3) (sdE a g _ h5) (ns_of h4)
  | .u1 .dct a, X, q, W, g, e, h => by
    unfold chkE at h; split at h <;> first | (cases h; done) | skip
    simp only [Bool.and_eq_true, decide_eq_true_eq] at h
    obtain ⟨⟨⟨⟨h1, h2⟩, h3⟩, h4⟩, h5⟩ := h
    subst h1
    exact sd_dct g.hK g.calm (g.gl h2) (g.bi h3) (sdE a g _ h5) (ns_of h4)
  | .u1 (.dix i) a, X, q, W, g, e, h => by
    unfold chkE at h; split at h <;> first | (cases h; done) | skip
    simp only [Bool.and_eq_true] at h
    obtain ⟨k1, k2, k3, k4⟩ := g.slot h.1.1
    exact sd_dix g.hK (by have := g.u65; omega) k1 k2 k3 k4 (sdE a g _ h.2) (ix_of h.1.2)
  | .u1 (.dgt i d) a, X, q, W, g, e, h => by
    unfold chkE at h; cases h
  | .sct i b, X, q, W, g, e, h => by
    unfold chkE at h; split at h <;> first | (cases h; done) | skip
    simp only [Bool.and_eq_true, decide_eq_true_eq] at h
    obtain ⟨⟨⟨⟨h1, h2⟩, h3⟩, h4⟩, h5⟩ := h
    subst h2
    obtain ⟨k1, k2, k3, k4⟩ := g.slot h1
    have ns : ∀ x ∈ [_], NS x := fun x hx => by rw [List.mem_singleton.mp hx]; exact ns_of h4
    exact sd_sct k1 k2 k3 k4 h3 (sdE b g _ h5) (ns_of h4) (few_of ns (by simp))
  | .idx a b, X, q, W, g, e, h => by
    unfold chkE at h; split at h <;> first | (cases h; done) | skip
    simp only [Bool.and_eq_true, decide_eq_true_eq] at h
    obtain ⟨⟨⟨⟨⟨h1, h2⟩, h3⟩, h4⟩, h5⟩, h6⟩ := h
    subst h2
    have ns : ∀ x ∈ [_], NS x := fun x hx => by rw [List.mem_singleton.mp hx]; exact ns_of h4
    exact sd_idx g.hK g.u65 (sdE a g _ h5) (sdE b g _ h6) (ns_of h4) (lcX_base h1) h3 (few_of ns (by simp))
  | .dgv i a b, X, q, W, g, e, h => by
    unfold chkE at h; split at h <;> first | (cases h; done) | skip
    simp only [Bool.and_eq_true, decide_eq_true_eq] at h
    obtain ⟨⟨⟨⟨⟨⟨h1, h2⟩, h3⟩, h4⟩, h5⟩, h6⟩, h7⟩ := h
    subst h2
    obtain ⟨k1, k2, k3, k4⟩ := g.slot h1
    have ns : ∀ x ∈ [_, _], NS x := fun x hx => by
      rcases List.mem_cons.mp hx with e | hx
      · rw [e]; exact ns_of h4
      · rw [List.mem_singleton.mp hx]; exact ns_of h5
    exact sd_dgv g.hK (by have := g.u65; omega) k1 k2 k3 k4 (sdE a g _ h6) (sdE b g _ h7) ⟨rfl, few_of ns (by simp), h3, by rw [star_cons (ns_of h4), star_cons (ns_of h5)]; rfl⟩
  | .lct i b, X, q, W, g, e, h => by
    unfold chkE at h; split at h <;> first | (cases h; done) | skip
    simp only [Bool.and_eq_true, decide_eq_true_eq] at h
    obtain ⟨⟨⟨⟨h1, h2⟩, h3⟩, h4⟩, h5⟩ := h
    subst h2
    obtain ⟨k1, k2, k3, k4⟩ := g.slot h1
    have ns : ∀ x ∈ [_], NS x := fun x hx => by rw [List.mem_singleton.mp hx]; exact ns_of h4
    exact sd_lct g.hK k1 k2 k3 k4 h3 (sdE b g _ h5) (ns_of h4) (few_of ns (by simp))
  | .frz i, X, q, W, g, e, h => by
    unfold chkE at h; split at h <;> first | (cases h; done) | skip
    obtain ⟨k1, k2, k3, k4⟩ := g.slot h
    exact sd_frz k1 k2 k3 k4
  | .fd a b, X, q, W, g, e, h => by
    unfold chkE at h; split at h <;> first | (cases h; done) | skip
    simp only [Bool.and_eq_true] at h
    exact sd_fd (sdE a g _ h.1) (sdE b g _ h.2)
  | .dls a, X, q, W, g, e, h => by
    unfold chkE at h; split at h <;> first | (cases h; done) | skip
    simp only [Bool.and_eq_true, decide_eq_true_eq] at h
    obtain ⟨⟨⟨⟨h1, h2⟩, h3⟩, h4⟩, h5⟩ := h
    subst h1
    exact sd_dls g.calm (g.gl h2) (g.bi h3) (sdE a g _ h5) (ns_of h4)
  | .dgf o a b, X, q, W, g, e, h => by
    unfold chkE at h; split at h <;> first | (cases h; done) | skip
    simp only [Bool.and_eq_true, decide_eq_true_eq] at h
    obtain ⟨⟨⟨⟨⟨⟨⟨h1, h2⟩, h3⟩, h4⟩, h5⟩, h6⟩, h7⟩, h8⟩ := h
    subst h2
    have ns : ∀ x ∈ [_, _], NS x := fun x hx => by
      rcases List.mem_cons.mp hx with e | hx
      · rw [e]; exact ns_of h4
      · rw [List.mem_singleton.mp hx]; exact ns_of h5
    exact sd_dgf g.hK (by have := g.u65; omega) (sdE o g _ h6) (sdE a g _ h7) (sdE b g _ h8) ⟨calX_base h1, few_of ns (by simp), h3, by rw [star_cons (ns_of h4), star_cons (ns_of h5)]; rfl⟩
  | .rpl es, X, q, W, g, e, h => by
    unfold chkE at h; split at h <;> first | (cases h; done) | skip
    simp only [Bool.and_eq_true, decide_eq_true_eq] at h
    obtain ⟨⟨⟨h1, h2⟩, h3⟩, h4⟩ := h
    subst h1
    exact sd_rpl g.hK g.calm g.gd g.u70 (g.gl h2) (g.bi h3) (sdA es g _ h4)
  | .d1 es a, X, q, W, g, e, h => by
    unfold chkE at h; split at h <;> first | (cases h; done) | skip
    simp only [Bool.and_eq_true, decide_eq_true_eq] at h
    obtain ⟨h1, h2⟩ := h
    exact sd_d1 (by have := g.u65; omega) (sdA es g _ h1) (sdE a g _ h2)
  | .u1 .rv2 a, X, q, W, g, e, h => by
    unfold chkE at h; split at h <;> first | (cases h; done) | skip
    simp only [Bool.and_eq_true, decide_eq_true_eq] at h
    obtain ⟨⟨h1, h3⟩, h2⟩ := h
    subst h1
    subst h3
    exact sd_rv2 g.hK (sdE a g _ h2)
  | .d0 t, X, q, W, g, e, h => by
    unfold chkE at h; split at h <;> first | (cases h; done) | skip
    exact sd_d0
theorem sdA : ∀ (es : Exs) {X : Cx} {q : Sx} {W : WX} (g : Good T G cl n L c X q W) (xs : List Expr), chkEs T G q es xs = true → PA X xs (tA c W (evA cl L es))
  | .nil, X, q, W, g, xs, h => by
    cases xs with
    | nil => exact sd_nil
    | cons => simp [chkEs] at h
  | .cons a r, X, q, W, g, xs, h => by
    cases xs with
    | nil => simp [chkEs] at h
    | cons x xs =>
      simp only [chkEs, Bool.and_eq_true] at h
      exact sd_cons (sdE a g x h.1.2) (sdA r g xs h.2) (star_cons (ns_of h.1.1))
theorem sdB (o : BoolOp) : ∀ (es : Exs) {X : Cx} {q : Sx} {W : WX} (g : Good T G cl n L c X q W) (xs : List Expr) (pos : Pos), chkEs T G q es xs = true → xs.isEmpty = false → PE X (.BoolOp o xs pos) (tE c W (evB cl L o es))
  | .nil, X, q, W, g, xs, pos, h, h2 => by
    cases xs with
    | nil => cases h2
    | cons => simp [chkEs] at h
  | .cons a r, X, q, W, g, xs, pos, h, h2 => by
    cases xs with
    | nil => cases h2
    | cons x xs =>
      simp only [chkEs, Bool.and_eq_true] at h
      have h3 := sdE a g x h.1.2
      cases r with
      | nil =>
        cases xs with
        | nil => exact sd_oneV h3
        | cons => simp [chkEs] at h
      | cons b r =>
        cases xs with
        | nil => simp [chkEs] at h
        | cons y ys =>
          have h4 := sdB o (.cons b r) g (y :: ys) pos h.2 rfl
          cases o with
          | And => exact sd_andV g.hK h3 h4
          | Or => exact sd_orV g.hK h3 h4
theorem sdK : ∀ (es : Exs) {X : Cx} {q : Sx} {W : WX} (g : Good T G cl n L c X q W) (kws : List Keyword) (ks : List Str), chkKs T G q es kws ks = true → PK X kws (tA c W (evA cl L es))
  | .nil, X, q, W, g, xs, ks, h => by
    cases xs with
    | nil => exact sd_knil
    | cons => simp [chkKs] at h
  | .cons a r, X, q, W, g, xs, ks, h => by
    cases xs with
    | nil => simp [chkKs] at h
    | cons x xs =>
      obtain ⟨nm, v, p⟩ := x
      cases nm with
      | none => simp [chkKs] at h
      | some nm =>
        cases ks with
        | nil => simp [chkKs] at h
        | cons k ks =>
          simp only [chkKs, Bool.and_eq_true] at h
          exact sd_kcons (sdE a g v h.1.2) (sdK r g xs ks h.2)
theorem sdO : ∀ (o : Oe) {X : Cx} {q : Sx} {W : WX} (g : Good T G cl n L c X q W) (e : Option Expr), chkO T G q o e = true → PO X e (tO c W (evO cl L o))
  | .nil, X, q, W, g, e, h => by
    cases e with
    | none => exact sd_oNone
    | some => simp [chkO] at h
  | .some a, X, q, W, g, e, h => by
    cases e with
    | none => simp [chkO] at h
    | some e => exact sd_oSome (sdE a g e (by simpa [chkO] using h))
theorem sdT : ∀ (t : Tt) {X : Cx} {q : Sx} {W : WX} (g : Good T G cl n L c X q W) (e : Expr), chkT T G q t e = true → PT X e (tT c W (evT cl L t))
  | .cmp o a b, X, q, W, g, e, h => by
    unfold chkT at h; split at h <;> first | (cases h; done) | skip
    simp only [Bool.and_eq_true, decide_eq_true_eq, Bool.not_eq_true'] at h
    obtain ⟨⟨⟨h1, h2⟩, h3⟩, h4⟩ := h
    subst h1
    exact sd_cmpT g.hK g.u65 (sdE a g _ h3) (sdE b g _ h4) h2
  | .chn o p a b d, X, q, W, g, e, h => by
    unfold chkT at h; split at h <;> first | (cases h; done) | skip
    simp only [Bool.and_eq_true, decide_eq_true_eq, Bool.not_eq_true'] at h
    obtain ⟨⟨⟨⟨⟨h1, h2⟩, h3⟩, h4⟩, h5⟩, h6⟩ := h
    subst h1; subst h2
    exact sd_chnT g.hK g.u65 (sdE a g _ h4) (sdE b g _ h5) (sdE d g _ h6) h3
  | .not t, X, q, W, g, e, h => by
    unfold chkT at h; split at h <;> first | (cases h; done) | skip
    exact sd_not (sdT t g _ h)
  | .bo o ts, X, q, W, g, e, h => by
    unfold chkT at h; split at h <;> first | (cases h; done) | skip
    simp only [Bool.and_eq_true, decide_eq_true_eq, Bool.not_eq_true'] at h
    obtain ⟨⟨h1, h2⟩, h3⟩ := h
    subst h1
    exact (sdW o ts g _ _ h2 h3).pt
  | .tru a, X, q, W, g, e, h => by
    unfold chkT at h
    simp only [Bool.and_eq_true] at h
    exact sd_tru g.hK (sdE a g _ h.2) (tru_of h.1)
  | .dcm ne i j, X, q, W, g, e, h => by
    unfold chkT at h; split at h <;> first | (cases h; done) | skip
    simp only [Bool.and_eq_true, decide_eq_true_eq] at h
    obtain ⟨⟨h1, h2⟩, h3⟩ := h
    subst h1
    obtain ⟨k1, k2, k3, k4⟩ := g.slot h2
    obtain ⟨j1, j2, j3, j4⟩ := g.slot h3
    exact sd_dcm (by have := g.u65; omega) k1 k2 k3 k4 j1 j2 j3 j4
  | .ite t a b, X, q, W, g, e, h => by
    unfold chkT at h; split at h <;> first | (cases h; done) | skip
    simp only [Bool.and_eq_true] at h
    exact sd_ifT (sdT t g _ h.1.1) (sdT a g _ h.1.2) (sdT b g _ h.2)
theorem sdW (o : BoolOp) : ∀ (ts : Tts) {X : Cx} {q : Sx} {W : WX} (g : Good T G cl n L c X q W) (xs : List Expr) (pos : Pos), chkC T G q ts xs = true → xs.isEmpty = false → PW X (.BoolOp o xs pos) (tT c W (evW cl L o ts))
  | .nil, X, q, W, g, xs, pos, h, h2 => by
    cases xs with
    | nil => cases h2
    | cons => simp [chkC] at h
  | .cons a r, X, q, W, g, xs, pos, h, h2 => by
    cases xs with
    | nil => cases h2
    | cons x xs =>
      simp only [chkC, Bool.and_eq_true] at h
      have h3 := sdT a g x h.1
      cases r with
      | nil =>
        cases xs with
        | nil => exact sd_and1 h3
        | cons => simp [chkC] at h
      | cons b r =>
        cases xs with
        | nil => simp [chkC] at h
        | cons y ys =>
          have h4 := sdW o (.cons b r) g (y :: ys) pos h.2 rfl
          cases o with
          | And => exact sd_and h3 h4
          | Or => exact sd_or h3 h4
theorem sdC : ∀ (ts : Tts) {X : Cx} {q : Sx} {W : WX} (g : Good T G cl n L c X q W) (xs : List Expr), chkC T G q ts xs = true → PTs X xs (tT c W (evC cl L ts))
  | .nil, X, q, W, g, xs, h => by
    cases xs with
    | nil => exact sd_cnil
    | cons => simp [chkC] at h
  | .cons a r, X, q, W, g, xs, h => by
    cases xs with
    | nil => simp [chkC] at h
    | cons x xs =>
      simp only [chkC, Bool.and_eq_true] at h
      have h3 := sdT a g x h.1
      cases r with
      | nil =>
        cases xs with
        | nil => exact pts_one h3
        | cons => simp [chkC] at h
      | cons b r => exact ⟨fun pins s σ H Q I ⟨Z, S, fr, k⟩ => k.elim⟩
theorem sdI : ∀ (it : Itx) {X : Cx} {q : Sx} {W : WX} (g : Good T G cl n L c X q W) (t e : Expr), chkI T G q it t e = true → PI X t e (tI c W (evI cl L it))
  | .ex a, X, q, W, g, t, e, h => by
    unfold chkI at h
    exact sd_iEx g.hK (sdE a g _ h)
  | .r1 es, X, q, W, g, t, e, h => by
    unfold chkI at h; split at h <;> first | (cases h; done) | skip
    simp only [Bool.and_eq_true, decide_eq_true_eq] at h
    obtain ⟨⟨⟨h1, h2⟩, h3⟩, h4⟩ := h
    subst h1
    exact sd_iR1 (g.gl h2) (g.bi h3) (sdA es g _ h4) (nsEs h4 _ (by simp))
  | .r2 es, X, q, W, g, t, e, h => by
    unfold chkI at h; split at h <;> first | (cases h; done) | skip
    simp only [Bool.and_eq_true, decide_eq_true_eq] at h
    obtain ⟨⟨⟨h1, h2⟩, h3⟩, h4⟩ := h
    subst h1
    exact sd_iR2 (g.gl h2) (g.bi h3) (sdA es g _ h4) (nsEs h4 _ (by simp)) (nsEs h4 _ (by simp))
  | .r3 es, X, q, W, g, t, e, h => by
    unfold chkI at h; split at h <;> first | (cases h; done) | skip
    simp only [Bool.and_eq_true, decide_eq_true_eq] at h
    obtain ⟨⟨⟨h1, h2⟩, h3⟩, h4⟩ := h
    subst h1
    exact sd_iR3 (g.gl h2) (g.bi h3) (sdA es g _ h4) (nsEs h4 _ (by simp)) fun y hy => nsEs h4 y (List.mem_cons_of_mem _ hy)
  | .enu es, X, q, W, g, t, e, h => by
    unfold chkI at h; split at h <;> first | (cases h; done) | skip
    simp only [Bool.and_eq_true, decide_eq_true_eq] at h
    obtain ⟨⟨⟨h1, h2⟩, h3⟩, h4⟩ := h
    subst h1
    exact sd_iEnu g.hK (g.gl h2) (g.bi h3) (sdA es g _ h4) (nsEs h4 _ (by simp))
  | .zp es, X, q, W, g, t, e, h => by
    unfold chkI at h; split at h <;> first | (cases h; done) | skip
    simp only [Bool.and_eq_true, decide_eq_true_eq] at h
    obtain ⟨⟨⟨h1, h2⟩, h3⟩, h4⟩ := h
    subst h1
    exact sd_iZp g.hK (g.gl h2) (g.bi h3) (sdA es g _ h4) (nsEs h4 _ (by simp)) (nsEs h4 _ (by simp))
  | .zm es, X, q, W, g, t, e, h => by
    unfold chkI at h; split at h <;> first | (cases h; done) | skip
    simp only [Bool.and_eq_true, decide_eq_true_eq] at h
    obtain ⟨⟨⟨h1, h2⟩, h3⟩, h4⟩ := h
    subst h1
    exact sd_iZm g.hK (g.gl h2) (g.bi h3) (sdA es g _ h4) (nsEs h4 _ (by simp)) (nsEs h4 _ (by simp))
end
end
end FL

set_option maxRecDepth 100000
set_option maxHeartbeats 40000000
/-! Statements and defs: the short form is what the machine does. -/
namespace FL
open PySem PySem.Spec PyProof.Rows L2

section
variable {T : List FD} {G : List (Str × Gk)} {cl : Nat → List Sv → CR} {n nw : Nat} {L : List Bool} {c : FCx} {X : Cx} {q : Sx} {W : WX}
theorem swaps_of {e : Expr} {t : Option Expr} {l : Nat} {env : Env} (h : notLc e = true) : swapsWith e t l env = pure false := by
  cases e <;> first | rfl | (simp [notLc] at h; done)
theorem swS_some {ts vs : List Expr} {k k2 : Nat} {p p2 : Pos} {env : Env} {r : Option (List Str)} (hk : env.scope.kind = .function) (h : swS env.scope ts vs = some r) : swappedStores [.Tuple ts k p] (.Tuple vs k2 p2) env = pure r := by
  have hb : env.blockKind = .function := by unfold Env.blockKind; rw [hk]; rfl
  unfold swappedStores
  unfold swS at h
  dsimp only at h ⊢
  rw [hb, show (ScopeKind.function != ScopeKind.function) = false from rfl, Bool.or_false]
  split at h
  · rename_i h1; cases h; exact if_pos h1
  rename_i h1
  refine (if_neg h1).trans ?_
  split at h
  · rename_i h2; cases h; exact if_pos h2
  rename_i h2
  refine (if_neg h2).trans ?_
  split at h
  · rename_i h3; cases h; exact if_pos h3
  rename_i h3
  refine (if_neg h3).trans ?_
  split at h
  · rename_i h4; cases h; exact if_pos h4
  rename_i h4
  refine (if_neg h4).trans ?_
  split at h
  · cases h
  rename_i h5
  cases h
  exact if_neg h5
theorem sole_of {e t : Expr} {l : Nat} {env : Env} (h : notLc e = true) : swapsWithSole [t] e l env = pure false := swaps_of h
theorem noTup_sw {v : Expr} {ts : List Expr} {k : Nat} {p : Pos} {env : Env} (h : noTup v = true) : swappedStores [.Tuple ts k p] v env = pure none := by
  cases v <;> first | rfl | (simp [noTup] at h; done)
theorem assign_sub {x : Str} {p p2 : Pos} {b : Expr} {env : Env} (h : ixOk b = true) (v : Value) : assign (.Subscript (.Name x p) b p2) env v = (do
      let ov ← holding [v] (eval (.Name x p) env)
      let iv ← holding [v, ov] (eval b env)
      standAt p2
      holding [v, ov, iv] (setItem ov iv v)
      release [v, ov, iv] []) := by
  cases b <;> first | rfl | (simp [ixOk] at h; done)
theorem paired_nm (g : Good T G cl n L c X q W) : ∀ (is : List Nat) (ts : List Expr), chkNm q is ts = true →
    Paired (fun (i : Nat) (t : Expr) => ∃ x p, t = .Name x p ∧ X.N[i]? = some x ∧ L2.Loc X.env.scope x ∧ (X.fn x = true ∨ X.env.scope.names.lookup x = some .local)) is ts
  | [], [], _ => .nil
  | i :: is, [], h => by simp [chkNm] at h
  | [], _ :: _, h => by simp [chkNm] at h
  | i :: is, e :: es, h => by
    cases e <;> first | (simp [chkNm] at h; done) | skip
    simp only [chkNm, Bool.and_eq_true, decide_eq_true_eq] at h
    obtain ⟨h1, h2⟩ := g.loc _ h.1.1
    exact .cons ⟨_, _, rfl, by rw [g.N]; exact h.1.2, h1, h2⟩ (paired_nm g is es h.2)
theorem nms_len {ts : List Expr} {is : List Nat} (h : chkNm q is ts = true) : (nmsOf ts).length = ts.length ∧ ts.length = is.length := by
  induction is generalizing ts with
  | nil => cases ts with
    | nil => exact ⟨rfl, rfl⟩
    | cons => simp [chkNm] at h
  | cons i is ih => cases ts with
    | nil => simp [chkNm] at h
    | cons e es =>
      cases e <;> first | (simp [chkNm] at h; done) | skip
      simp only [chkNm, Bool.and_eq_true] at h
      obtain ⟨h1, h2⟩ := ih h.2
      exact ⟨by simp only [nmsOf, List.length_cons, h1], by simp [h2]⟩
/-- the swap reads each name as a local -/
theorem swS_local {sc : Scope} {ts vs : List Expr} {ns : List Str} (h : swS sc ts vs = some (some ns)) : (ts.length = 2 ∨ ts.length = 3) ∧ vs.length = ts.length ∧ ns.length = ts.length ∧ ∀ x ∈ ns, sc.names.lookup x = some .local := by
  unfold swS at h
  dsimp only at h
  split at h
  · cases h
  rename_i h1
  split at h
  · cases h
  split at h
  · cases h
  rename_i h3
  split at h
  · cases h
  split at h
  · cases h
  cases h
  simp only [Bool.or_eq_true, Bool.not_eq_true', bne_iff_ne, ne_eq, not_or, Decidable.not_not, Bool.not_eq_false, Bool.or_eq_true, beq_iff_eq] at h1 h3
  refine ⟨h1.1, h1.2, h3.1, fun x hx => ?_⟩
  simp only [List.mem_filterMap] at hx
  obtain ⟨e, _, he⟩ := hx
  split at he
  · split at he
    · rename_i hc
      cases he
      simp only [Bool.and_eq_true, beq_iff_eq] at hc
      exact hc.1
    · cases he
  · cases he
structure GoodS (T : List FD) (G : List (Str × Gk)) (cl : Nat → List Sv → CR) (n : Nat) (L : List Bool) (c : FCx) (X : Cx) (q : Sx) (W : WX) : Prop where
  g : Good T G cl n L c X q W
  po : PassesOwn (model X.prog X.w) X.A X.env X.xe
  kind : X.env.scope.kind = .function
  stk : X.stack = X.env :: X.outer
  frm : X.env.frame = some X.env.locals
theorem sd_parS {is : List Nat} {ts vs : List Expr} {k k2 : Nat} {p p2 pos : Pos} {fs : FA} (g : GoodS T G cl n L c X q W) (h1 : chkNm q is ts = true) (h2 : swS q.sc ts vs = some (some (nmsOf ts))) (h3 : is.Nodup) (ha : PA X vs (tA c W fs)) :
    PS X (.Assign [.Tuple ts k p] (.Tuple vs k2 p2) pos) (tS c W (sPut L is fs)) := by
  obtain ⟨l1, l2, l3, loc⟩ := swS_local h2
  have hw := swS_some (k := k) (k2 := k2) (p := p) (p2 := p2) (env := X.env) g.kind (by rw [g.g.sc]; exact h2)
  have nd : X.N.Nodup := by rw [g.g.N]; exact g.g.nd
  have pr := paired_nm g.g is ts h1
  rw [← g.g.sc] at loc
  rcases l1 with l1 | l1
  · match ts, is, vs, l1, l2, pr with
    | [_, _], [i, j], [a, b], _, _, .cons ⟨x, p1, e1, k1, _⟩ (.cons ⟨y, p2, e2, k2, _⟩ .nil) =>
      subst e1; subst e2
      have hij : i ≠ j := fun e => by subst e; simp at h3
      exact sd_par2 g.g.lok g.g.calm nd k1 k2 hij (loc x (by simp [nmsOf])) (loc y (by simp [nmsOf])) ha hw
  · match ts, is, vs, l1, l2, pr with
    | [_, _, _], [i, j, l], [a, b, d], _, _, .cons ⟨x, p1, e1, k1, _⟩ (.cons ⟨y, p2, e2, k2, _⟩ (.cons ⟨z, p3, e3, k3, _⟩ .nil)) =>
      subst e1; subst e2; subst e3
      simp only [List.nodup_cons, List.mem_cons, List.not_mem_nil, or_false, not_or] at h3
      exact sd_par3 g.g.lok g.g.calm nd k1 k2 k3 h3.1.1 h3.1.2 h3.2.1 (loc x (by simp [nmsOf])) (loc y (by simp [nmsOf])) (loc z (by simp [nmsOf])) ha hw
end
section
variable {T : List FD} {G : List (Str × Gk)} {cl : Nat → List Sv → CR} {n nw : Nat} {L : List Bool} {c : FCx}
mutual
theorem sdS : ∀ (s : Sm) {X : Cx} {q : Sx} {W : WX} (g : GoodS T G cl n L c X q W) (st : Stmt), chkS T G q s st = true → PS X st (tS c W (evS cl L nw s))
  | .sk, X, q, W, g, st, h => by
    unfold chkS at h; split at h <;> first | (cases h; done) | skip
    · exact sd_pass
    · exact sd_doc
  | .exp e, X, q, W, g, st, h => by
    unfold chkS at h; split at h <;> first | (cases h; done) | skip
    simp only [Bool.and_eq_true] at h
    exact sd_exp (sdE e g.g _ h.2) (swaps_of h.1)
  | .ifs t a b, X, q, W, g, st, h => by
    unfold chkS at h; split at h <;> first | (cases h; done) | skip
    simp only [Bool.and_eq_true] at h
    exact sd_if (sdT t g.g _ h.1.1) (sdSs a g _ h.1.2) (sdSs b g _ h.2)
  | .set i e, X, q, W, g, st, h => by
    unfold chkS at h; split at h <;> first | (cases h; done) | skip
    simp only [Bool.and_eq_true, decide_eq_true_eq] at h
    obtain ⟨⟨⟨h1, h2⟩, h3⟩, h4⟩ := h
    obtain ⟨k1, k2⟩ := g.g.loc _ h1
    exact sd_set g.g.lok (by rw [g.g.N]; exact g.g.nd) (by rw [g.g.N]; exact h2) k1 (sdE e g.g _ h4) (swaps_of h3) k2
  | .setLc i tg it cd elt own, X, q, W, g, st, h => by
    unfold chkS at h; split at h <;> first | (cases h; done) | skip
    simp only [Bool.and_eq_true, decide_eq_true_eq, Bool.not_eq_true'] at h
    obtain ⟨⟨⟨⟨⟨⟨⟨⟨⟨⟨⟨h1, h2⟩, h3⟩, h4⟩, h5⟩, h6⟩, h7⟩, h8⟩, h9⟩, h10⟩, h11⟩, h12⟩ := h
    subst h5
    exact sd_setLc g.g h6 h7 (sdI it g.g _ _ h9) (fun s H C cs fp => sdTg tg (g.g.blk _ s H C cs fp) _ h8) (fun s H C cs fp => sdC cd (g.g.blk _ s H C cs fp) _ h11) (fun s H C cs fp => sdE elt (g.g.blk _ s H C cs fp) _ h12) h10 g.kind h1 h2 h3 h4
  | .par sw is es, X, q, W, g, st, h => by
    unfold chkS at h; split at h <;> first | (cases h; done) | skip
    · simp only [Bool.and_eq_true, decide_eq_true_eq] at h
      exact sd_parS g h.1.1.1 h.1.1.2 h.1.2 (sdA es g.g _ h.2)
    · simp only [Bool.and_eq_true, decide_eq_true_eq] at h
      exact sd_parT g.g.lok g.g.calm (by rw [g.g.N]; exact g.g.nd) (paired_nm g.g _ _ h.1.1.1) h.1.2 (sdA es g.g _ h.2) (swS_some g.kind (by rw [g.g.sc]; exact h.1.1.2))
  | .tgt tg e, X, q, W, g, st, h => by
    unfold chkS at h; split at h <;> first | (cases h; done) | skip
    simp only [Bool.and_eq_true] at h
    obtain ⟨⟨⟨h1, h2⟩, h3⟩, h4⟩ := h
    exact sd_tgt (sdE e g.g _ h4) (sdTg tg g.g _ h3) (sole_of h2) (noTup_sw h1) rfl
  | .ret e, X, q, W, g, st, h => by
    unfold chkS at h; split at h <;> first | (cases h; done) | skip
    exact sd_ret g.g.lok (sdE e g.g _ h)
  | .retN, X, q, W, g, st, h => by
    unfold chkS at h; split at h <;> first | (cases h; done) | skip
    exact sd_retN
  | .aug i o e, X, q, W, g, st, h => by
    unfold chkS at h; split at h <;> first | (cases h; done) | skip
    simp only [Bool.and_eq_true, decide_eq_true_eq] at h
    obtain ⟨⟨⟨⟨h1, h2⟩, h3⟩, h4⟩, h5⟩ := h
    obtain ⟨k1, k2⟩ := g.g.loc _ h1
    subst h3
    have ho : o = .add ∨ o = .sub := by cases o <;> first | exact .inl rfl | exact .inr rfl | cases h4
    exact sd_aug g.g.lok (by rw [g.g.N]; exact g.g.nd) (by rw [g.g.N]; exact h2) k1 (sdE e g.g _ h5) ho k2
  | .sub i k e, X, q, W, g, st, h => by
    unfold chkS at h; split at h <;> first | (cases h; done) | skip
    simp only [Bool.and_eq_true] at h
    obtain ⟨⟨⟨⟨h1, h2⟩, h3⟩, h4⟩, h5⟩ := h
    obtain ⟨k1, k2, k3, k4⟩ := g.g.slot h1
    exact sd_sub k1 k2 k3 k4 (sdE k g.g _ h4) (sdE e g.g _ h5) (assign_sub h2) (sole_of h3) rfl
  | .dput i k e, X, q, W, g, st, h => by
    unfold chkS at h; split at h <;> first | (cases h; done) | skip
    simp only [Bool.and_eq_true] at h
    obtain ⟨⟨⟨h1, h3⟩, h4⟩, h5⟩ := h
    obtain ⟨k1, k2, k3, k4⟩ := g.g.slot h1
    exact sd_dput (by have := g.g.u65; omega) k1 k2 k3 k4 (sdE k g.g _ h4) (sdE e g.g _ h5) (swaps_of h3)
  | .dpt i es e, X, q, W, g, st, h => by
    unfold chkS at h; split at h <;> first | (cases h; done) | skip
    simp only [Bool.and_eq_true] at h
    obtain ⟨⟨⟨h1, h3⟩, h4⟩, h5⟩ := h
    obtain ⟨k1, k2, k3, k4⟩ := g.g.slot h1
    exact sd_dpt (by have := g.g.u65; omega) k1 k2 k3 k4 (sdA es g.g _ h4) (sdE e g.g _ h5) (swaps_of h3)
  | .kput i j es e, X, q, W, g, st, h => by
    unfold chkS at h; cases h
  | .whl t b, X, q, W, g, st, h => by
    unfold chkS at h; split at h <;> first | (cases h; done) | skip
    simp only [Bool.and_eq_true] at h
    exact sd_while g.po (sdT t g.g _ h.1) (sdSs b g _ h.2) nw
  | .fork tg it b, X, q, W, g, st, h => by
    unfold chkS at h; split at h <;> first | (cases h; done) | skip
    simp only [Bool.and_eq_true] at h
    exact sd_forK g.g.lok g.po g.g.calm (sdI it g.g _ _ h.1.1.2) (sdTg tg g.g _ h.1.1.1) (sdSs b g _ h.2) (fold_of h.1.2)
  | .fori tg a b, X, q, W, g, st, h => by
    unfold chkS at h; split at h <;> first | (cases h; done) | skip
    simp only [Bool.and_eq_true, decide_eq_true_eq] at h
    obtain ⟨⟨⟨⟨⟨⟨h1, h2⟩, h3⟩, h4⟩, h5⟩, h6⟩, h7⟩ := h
    subst h3
    obtain ⟨elts, kk, tp, et⟩ := isTup_at h1
    exact sd_forI et g.po g.g.calm (sdE a g.g _ h6) (sdTg tg g.g _ h5) (sdSs b g _ h7) (fun _ => rfl) (subX_base h2) h4
  | .for_ tg it b, X, q, W, g, st, h => by
    unfold chkS at h; split at h <;> first | (cases h; done) | skip
    simp only [Bool.and_eq_true] at h
    exact sd_for g.po g.g.calm (sdI it g.g _ _ h.1.1.2) (sdTg tg g.g _ h.1.1.1) (sdSs b g _ h.2) (fold_of h.1.2)
  | .tryE b i j ms z tab, X, q, W, g, st, h => by
    unfold chkS at h; split at h <;> first | (cases h; done) | skip
    simp only [Bool.and_eq_true, decide_eq_true_eq, Bool.not_eq_true'] at h
    obtain ⟨⟨⟨⟨⟨⟨⟨⟨⟨⟨⟨⟨h1, h2⟩, h3⟩, h4⟩, h5⟩, h6⟩, h7⟩, h8⟩, h9⟩, h10⟩, h11⟩, h12⟩, h13⟩ := h
    subst h1; subst h2
    obtain ⟨k1, k2⟩ := g.g.loc _ h5
    obtain ⟨jx, nm, hm⟩ := g.g.ctch (g.g.gl h7) h8 h9
    obtain ⟨hc, f, fd, px, b1, b2, b3, F⟩ := g.g.hot h12
    obtain ⟨s1, s2, s3, s4⟩ := g.g.slot h3
    refine sd_try g.g.hK (fun k => by rw [hc]) g.g.lok g.g.tk g.stk g.frm (by rw [g.g.N]; exact g.g.nd) s1 (by rw [g.g.sc]; exact h4) (by rw [g.g.N]; exact h6) k1 k2 nm hm (fun W' pn xe tk' po => ?_) F ((L2H.roomH_of g.g.room).mono (Nat.zero_le _)) (g.g.gl h10) b1 b2 b3 s3 s4 h11 (fun _ => swaps_of rfl)
    exact sdSs b (X := X.tr pn xe) (q := q) (W := W') ⟨⟨g.g.N, g.g.sc, g.g.nd, g.g.hK, g.g.calm, g.g.gd, g.g.room, tk', g.g.loc, g.g.lok, g.g.glob, g.g.fns⟩, po, g.kind, g.stk, g.frm⟩ _ h13
  | .saug i k n, X, q, W, g, st, h => by
    unfold chkS at h; split at h <;> first | (cases h; done) | skip
    simp only [Bool.and_eq_true, decide_eq_true_eq] at h
    obtain ⟨⟨⟨h1, h2⟩, h3⟩, h4⟩ := h
    subst h2; subst h3
    obtain ⟨s1, s2, s3, s4⟩ := g.g.slot h1
    exact sd_saug s1 s2 s3 s4 h4
  | .rse x k, X, q, W, g, st, h => by
    unfold chkS at h; split at h <;> first | (cases h; done) | skip
    simp only [Bool.and_eq_true, decide_eq_true_eq, Bool.not_eq_true'] at h
    obtain ⟨⟨⟨h1, h2⟩, h3⟩, h4⟩ := h
    subst h1
    exact sd_rse g.g.calm g.g.tk (g.g.exk h3) (g.g.gl h2) h4
  | .brk, X, q, W, g, st, h => by
    unfold chkS at h; split at h <;> first | (cases h; done) | skip
    exact sd_brk
  | .cnt, X, q, W, g, st, h => by
    unfold chkS at h; split at h <;> first | (cases h; done) | skip
    exact sd_cnt
  | .no, X, q, W, g, st, h => ⟨fun pins s σ H E I ⟨Z, S, fr, k⟩ => k.elim⟩
theorem sdSs : ∀ (ss : Sms) {X : Cx} {q : Sx} {W : WX} (g : GoodS T G cl n L c X q W) (st : List Stmt), chkSs T G q ss st = true → PSs X st (tS c W (evSs cl L nw ss))
  | .nil, X, q, W, g, st, h => by
    cases st with
    | nil => exact sd_snil
    | cons => simp [chkSs] at h
  | .cons s r, X, q, W, g, st, h => by
    cases st with
    | nil => simp [chkSs] at h
    | cons x xs =>
      unfold chkSs at h
      split at h
      · rename_i i j es e z p0 ys k0 p1 p2 y p3 z2 p4 p5 v p6 ss
        simp only [Bool.and_eq_true, decide_eq_true_eq] at h
        obtain ⟨⟨⟨⟨⟨⟨⟨h1, h2⟩, h3⟩, h4⟩, h5⟩, h6⟩, h7⟩, h8⟩ := h
        subst h1
        obtain ⟨a1, a2⟩ := g.g.loc _ h2
        obtain ⟨j1, j2, j3, j4⟩ := g.g.slot h3
        obtain ⟨k1, k2, k3, k4⟩ := g.g.slot h4
        exact sd_kput g.g.lok (by have := g.g.u65; omega) (by rw [g.g.N]; exact g.g.nd) j1 a1 a2 k1 k2 k3 k4 j2 j3 j4 (sdA es g.g _ h6) (sdE e g.g _ h7) (sdSs r g ss h8) (swaps_of h5)
      · simp only [Bool.and_eq_true] at h
        exact sd_seq (sdS s g x h.1) (sdSs r g xs h.2)
end
end
end FL

set_option maxRecDepth 100000
set_option maxHeartbeats 40000000
/-! Every def of the table keeps its promise. -/
namespace FL
open PySem PySem.Spec PyProof.Rows L2

def isLC : Option NameKind → Bool
  | some .local => true
  | some .cell => true
  | _ => false
def chkD (T : List FD) (G : List (Str × Gk)) (d : FD) (st : Stmt) : Bool :=
  decide ((defScope st).kind = .function) && !(defScope st).isCoroutine && !(defScope st).isGenerator && decide d.N.Nodup && decide (d.N.take d.ps.length = d.ps) && (d.ps.all fun x => isLC ((defScope st).names.lookup x)) &&
    ((defScope st).names.all fun y => decide (y.2 ≠ .free)) && chkSs T G ⟨d.N, defScope st, (defScope st).names⟩ d.body (defBody st)
def BindEq (x qual : Str) (st : Stmt) (ps : List Str) (fm : Form) : Prop := fm.perm.length = ps.length ∧ ∀ (kV doc pm : Value) (an : Option Addr) (cdv ct : Value) (us ws : List Value), us.length = fm.np → ws.length = fm.ks.length →
  bindArgs (PySem.W.fnOf x qual (defArgs st) (defBody st) (defScope st) .none kV doc pm an cdv ct) ⟨us, fm.ks.zip ws⟩ = pure (ps.zip (fm.perm.map fun i => (us ++ ws).getD i .none))
structure DOk (K : PySem.W.Frag) (mg : Str → Option Value) (T : List FD) (G : List (Str × Gk)) (d : FD) (f : Addr) (fd : FuncData) : Prop where
  ok : ∃ st, Fun K d.x d.qual st f fd ∧ mg d.x = some (.ref f) ∧ chkD T G d st = true ∧ ∀ fm ∈ d.forms, BindEq d.x d.qual st d.ps fm
theorem chkD_scope {T : List FD} {G : List (Str × Gk)} {d : FD} {st : Stmt} (h : chkD T G d st = true) : FnScope d.N d.ps (defScope st) ∧ chkSs T G ⟨d.N, defScope st, (defScope st).names⟩ d.body (defBody st) = true := by
  unfold chkD at h
  simp only [Bool.and_eq_true, decide_eq_true_eq, Bool.not_eq_true', List.all_eq_true] at h
  obtain ⟨⟨⟨⟨⟨⟨⟨h1, h2⟩, h3⟩, h4⟩, h5⟩, h6⟩, h7⟩, h8⟩ := h
  refine ⟨⟨h1, h2, h3, h4, h5, fun x hx => ?_, fun y hy => h7 y hy⟩, h8⟩
  have := h6 x hx
  unfold isLC at this
  split at this
  · rename_i e; exact .inl e
  · rename_i e; exact .inr e
  · cases this
theorem all_ok {P : Program} {w : World} {K : PySem.W.Frag} {mg : Str → Option Value} {base : Heap} {T : List FD} {G : List (Str × Gk)} {cls : Nat → Addr} {nw : Nat}
    (hT : ∀ (id : Nat) (d : FD), T[id]? = some d → ∃ f fd, DOk K mg T G d f fd) (hG : ∀ x g, G.lookup x = some g → g.ok K mg cls x) :
    ∀ (n id : Nat) (d : FD) (f : Addr) (fd : FuncData), T[id]? = some d → DOk K mg T G d f fd → FnG P w K mg base n f fd d.ps (spF K cls d.ps.length (callF T nw n id))
  | 0, id, d, f, fd, e, k => ⟨fun vs H Q E h => h.1, fun A outer s H args us vs Q E hr hg e0 hb r h => by
    obtain ⟨_, Z, ss, _, h⟩ := h
    exact h.elim⟩
  | n + 1, id, d, f, fd, e, k => by
    obtain ⟨st, F, m, hc, hb⟩ := k.ok
    obtain ⟨S, body⟩ := chkD_scope hc
    refine fnG_of F S (fun vs H Q E h => h.1) fun cdv A outer s H vs Q E hr hg hsp => ?_
    have e2 : callF T nw (n + 1) id = runF d.ps.length d.N.length fun L => evSs (callF T nw n) L nw d.body := by
      rw [callF, e]
    rw [e2] at hsp
    have hl : d.ps.length ≤ d.N.length := by have := congrArg List.length S.pre; rw [List.length_take] at this; omega
    obtain ⟨Z, ss, A0, post⟩ := body_post hl hsp
    refine ⟨_, ?_, post⟩
    refine sdSs (q := ⟨d.N, defScope st, (defScope st).names⟩) (T := T) (G := G) (n := n) d.body ⟨⟨rfl, rfl, S.nd, rfl, rfl, hg, hr, L2N.takes_of rfl rfl rfl rfl, fun x hx => ?_, LOk.start K H cls vs ss A0, hG, fun id' d' e' => ?_⟩, passes_of rfl, S.kind, rfl, rfl⟩ _ body
    · unfold Sx.loc at hx
      dsimp only at hx
      refine ⟨?_, .inl rfl⟩
      show (defScope st).names.lookup x = some .local ∨ (defScope st).names.lookup x = some .cell
      split at hx
      · rename_i e; exact .inl e
      · rename_i e; exact .inr e
      · cases hx
    · obtain ⟨f', fd', k'⟩ := hT id' d' e'
      obtain ⟨st', F', m', _, hb'⟩ := k'.ok
      exact ⟨f', fd', all_ok hT hG n id' d' f' fd' e' k', m', F'.kp, fun fm hfm => KB.all F' (hb' fm hfm).1 (hb' fm hfm).2⟩
end FL

set_option maxRecDepth 100000
set_option maxHeartbeats 4000000
/-! The law's end. -/
namespace FL
open PySem PySem.Spec PyProof.Rows L2

abbrev YesP (a : Heap) (o : OsState) (r : Result) (s' : Shared) : Prop := r = .ok (.ret (.bool true)) ∧ OldK a s'.heap ∧ s'.os = o ∧ AllBare s'.gens
section
variable {P : Program} {w : World} {K : PySem.W.Frag} {mg mb : Str → Option Value} {k : Nat} {fa a : Addr} {fd : FuncData} {x : Str} {sp : Sp} {s : Shared} {us : List Value} {zs : List Int}
theorem law_go {H : Hp} (KX : K.In s.heap) (h1 : s.heap.Ns mainGlobals mg) (h2 : s.heap.Ns builtinsNs mb) (h3 : ∀ y : Str, y ≠ "__name__" → mb y = bootBuiltins y) (h4 : s.heap.NoLimit) (h5 : s.gens = #[])
    (ha : s.heap.get? a = some { cls := .type "list", data := .seq us.toArray }) (hr : Room k callerA)
    (F : ∀ base : Heap, K.In base → base.Ns mainGlobals mg → FnG P w K mg base k fa fd [x] sp) (hb : ∀ (s : Shared) (u : Value), BindsTo s fd ⟨[u], []⟩ [(x, u)])
    (hO : Only H) (q : sp [.ref a] H (fun v _ => v = .bl true) fun _ _ _ => False) (hok : HOk P w H s.heap) (hA : ∀ b, H b ≠ none → b = a) (hK : H a ≠ none → K.lookup a = none) :
    codeAny (model P w) callerA (.call (.ref fa) ⟨[.ref a], []⟩) (YesP s.heap s.os) s := by
  have bare : ∀ {b : Addr} {o : Obj} {es : Array DictEntry} {ep : Nat}, s.heap.get? b = some o → o.data = .dict es ep → H b = none := by
    intro b o es ep e d
    cases z : H b with
    | none => rfl
    | some t =>
      have hb := hA b fun n => by rw [n] at z; cases z
      subst hb
      rw [ha] at e
      cases e
      cases (show Data.seq us.toArray _ = Data.dict es ep from d)
  have thin : ∀ {b : Addr} {m : Str → Option Value}, s.heap.Ns b m → (hidT s.heap H).Ns b m := by
    intro b m ⟨o, es, ep, e, d, r⟩
    exact ⟨o, es, ep, hidT_get e (bare e d), d, r⟩
  have KB : K.In (hidT s.heap H) := by
    intro b o e
    refine hidT_get (KX b o e) ?_
    cases z : H b with
    | none => rfl
    | some t =>
      have hb := hA b fun n => by rw [n] at z; cases z
      subst hb
      rw [hK (by rw [z]; simp)] at e
      cases e
  have md : Mod K mg (hidT s.heap H) := ⟨KB, thin h1, ⟨mb, thin h2, h3⟩, let ⟨mc, n1, n2⟩ := h4; ⟨mc, thin n1, n2⟩⟩
  have env : Env0 P w K mg (hidT s.heap H) callerA [] s H := ⟨rfl, md, fun _ _ e => of_hidT e, Nat.le_of_eq (hidT_size _ _), trivial, fun b hb => (nomatch (show b ∈ ([] : List Addr) from hb)), hok, .of_eq h5⟩
  refine codeAny_mono ((F _ KB (thin h1)).run callerA [] s H ⟨[.ref a], []⟩ [.ref a] [.ref a] _ _ hr rfl env (hb s (.ref a)) (.cons rfl .nil) q) fun r s' h => ?_
  cases r with
  | error e =>
    obtain ⟨_, _, _, _, _, _, _, _, _, _, _, _, z⟩ := h
    exact z.elim
  | ok fl =>
    cases fl with
    | next => exact h.elim
    | brk => exact h.elim
    | cont => exact h.elim
    | ret u =>
      obtain ⟨v, H', os, gs, un, hok', rv, z⟩ := h
      have z : v = .bl true := z
      subst z
      have eu : u = Value.bool true := rv
      subst eu
      refine ⟨rfl, OldK.of_keep fun b o e => ?_, os, gs⟩
      cases z : H b with
      | none => exact un.keep b o e z (fun n => nomatch (show b ∈ ([] : List Addr) from n)) (by simp)
      | some t =>
        rcases hO b with y | ⟨ob, xs, y⟩
        · rw [z] at y; cases y
        · obtain ⟨g1, _⟩ := hok b _ y
          obtain ⟨g2, _⟩ := hok' b _ (un.frzs b ob _ y)
          rw [e] at g1
          cases g1
          exact g2
theorem law_ends {l : Nat} (KX : K.In s.heap) (h1 : s.heap.Ns mainGlobals mg) (h2 : s.heap.Ns builtinsNs mb) (h3 : ∀ y : Str, y ≠ "__name__" → mb y = bootBuiltins y) (h4 : s.heap.NoLimit) (h5 : s.gens = #[])
    (ha : s.heap.get? a = some { cls := .type "list", data := .seq us.toArray }) (hi : IntsAre us zs) (hl : zs.length ≤ l) (hl2 : l ≤ sizeLine) (hr : Room k callerA)
    (F : ∀ base : Heap, K.In base → base.Ns mainGlobals mg → FnG P w K mg base k fa fd [x] sp) (hb : ∀ (s : Shared) (u : Value), BindsTo s fd ⟨[u], []⟩ [(x, u)])
    (hsp : ∀ (H : Hp) (ns : List Int), ns.length ≤ l → Only H → SqL K H a (ns.map V.int) → sp [.ref a] H (fun v _ => v = .bl true) fun _ _ _ => False) :
    codeAny (model P w) callerA (.call (.ref fa) ⟨[.ref a], []⟩) (YesP s.heap s.os) s := by
  have rv := vals_ints hi
  have ln := hi.length
  have hz : us.toArray.size ≤ sizeLine := by rw [List.size_toArray, ln]; exact Nat.le_trans hl hl2
  cases hk : K.lookup a with
  | some o =>
    have e := KX a o hk
    rw [ha] at e
    cases e
    have hO : Only fun _ => none := fun _ => .inl rfl
    refine law_go (H := fun _ => none) KX h1 h2 h3 h4 h5 ha hr F hb hO (hsp _ zs hl hO ?_) ?_ ?_ ?_
    · exact .inr ⟨_, us.toArray, _, hk, rfl, rfl, rfl, hz, by simpa using rv⟩
    · intro b u z; cases (show (none : Option HO) = some u from z)
    · intro b z; exact (z rfl).elim
    · intro z; exact (z rfl).elim
  | none =>
    let H : Hp := fun b => if b = a then some (.frz { cls := .type "list", data := .seq us.toArray } (.lst (zs.map V.int))) else none
    have hO : Only H := fun b => by
      by_cases e : b = a
      · exact .inr ⟨_, _, if_pos e⟩
      · exact .inl (if_neg e)
    refine law_go (H := H) KX h1 h2 h3 h4 h5 ha hr F hb hO (hsp _ zs hl hO ?_) ?_ ?_ fun _ => hk
    · exact .inl (.inr ⟨_, if_pos rfl⟩)
    · intro b u z
      by_cases e : b = a
      · subst e
        have z := (if_pos rfl).symm.trans z
        cases z
        refine ⟨ha, ?_, us, _, rv, ha⟩
        rw [List.length_map, ← ln, ← List.size_toArray]
        exact hz
      · have z := (if_neg e).symm.trans z
        cases z
    · intro b z
      by_cases e : b = a
      · exact e
      · exact absurd (if_neg e) z
end
/-- the goal that the head leaves -/
theorem walk_G {l : PySem.W.OpenLaw} {n k : Nat} {q : Program} {loose : List Str} {XP : (Str → Option Value) → Heap → Prop} {YP : World → Heap → Prop} {d : DefRec} {x : Str}
    (hn : l.most = some n) (hn2 : n ≤ sizeLine) (hdf : d.params.defaults = []) (hr : Room k callerA)
    (F : ∀ (w : World) (mg : Str → Option Value) (fa : Addr) (h : Heap), YP w h → h.Ns mainGlobals mg → mg d.name = some (.ref fa) →
      ∃ (K : PySem.W.Frag) (fd : FuncData) (sp : Sp), K.In h ∧ (∀ (s : Shared) (u : Value), BindsTo s fd ⟨[u], []⟩ [(x, u)]) ∧
        (∀ (H : Hp) (a : Addr) (ns : List Int), ns.length ≤ n → Only H → SqL K H a (ns.map V.int) → sp [.ref a] H (fun v _ => v = .bl true) fun _ _ _ => False) ∧
        ∀ base : Heap, K.In base → base.Ns mainGlobals mg → FnG l.prog w K mg base k fa fd [x] sp) :
    PySem.W.WalkO q loose XP YP l.row.toRowW d [] (fun f vs => PySem.call f vs) := by
  refine Att.attach_call hn hdf fun w s₀ s₁ mg mb fa o pm cd doc a vs ns G Y ho hd hcd hmg hobj hints hlen hg => ?_
  obtain ⟨K, fd, sp, KX, hb, hsp, hF⟩ := F w mg fa _ Y G.T.g hmg
  exact law_ends KX G.T.g G.T.b G.T.builtins G.T.nolimit hg hobj hints hlen hn2 hr hF hb fun H ns h1 h2 h3 => hsp H a ns h1 h2 h3
end FL

set_option maxRecDepth 100000
set_option maxHeartbeats 4000000
/-! From the table of a law's defs to the law. -/
namespace FL
open PySem PySem.Spec PyProof.Rows L2

structure Rw where
  d : FD
  st : Stmt
def Rw.df (r : Rw) : He.DefD := { at_ := (r.d.x, none), name := r.d.x, qual := r.d.qual, params := defArgs r.st, body := defBody r.st, scope := defScope r.st, dfl := [], kwd := [] }
/-! ### what the error classes answer -/
def exMs (k : Nat) : List Bool := (List.range 13).map fun i => decide (k = 0) || decide (i = k)
def allT : List Bool := List.replicate 13 true
def oT (a : Option Bool) (b : Bool) : Bool := decide (a = some b)
def xfB (K : PySem.W.Frag) (C : Addr) : Bool :=
  He.eqO (PySem.W.findIn K (.ref C) "__getattribute__") (some (some (.builtin "BaseException.__getattribute__"))) && (He.eqO (PySem.W.findIn K (.ref C) "__getattr__") (some none) && (oT (PySem.W.subIn K (.ref C) (.type "BaseException")) true && (PySem.W.hasDictIn K C &&
    (He.eqO (PySem.W.findIn K (.ref C) "__class__") (some (some (.builtin "object.__class__"))) && (He.eqO (PySem.W.specialIn K (.builtin "object.__class__") "__get__") (some (some (.builtin "getset_descriptor.__get__"))) && (oT (PySem.W.takesIn K (.builtin "object.__class__")) true &&
      (oT (PySem.W.mroIn K C (.type "object")) true && ((["int", "bool", "str", "tuple", "list"] : List String).all fun t => oT (PySem.W.kitOne K (.ref C) (.type t)) false))))))))
theorem xfB_ok {K : PySem.W.Frag} {C : Addr} (h : xfB K C = true) : XF K C := by
  obtain ⟨c1, h⟩ := He.ba h
  obtain ⟨c2, h⟩ := He.ba h
  obtain ⟨c3, h⟩ := He.ba h
  obtain ⟨c4, h⟩ := He.ba h
  obtain ⟨c5, h⟩ := He.ba h
  obtain ⟨c6, h⟩ := He.ba h
  obtain ⟨c7, h⟩ := He.ba h
  obtain ⟨c8, h⟩ := He.ba h
  exact ⟨⟨He.eqO_ok c1, He.eqO_ok c2, of_decide_eq_true c3, c4, He.eqO_ok c5, He.eqO_ok c6, of_decide_eq_true c7, of_decide_eq_true c8⟩, fun t ht => of_decide_eq_true (List.all_eq_true.mp h t ht)⟩
def pkE (K : PySem.W.Frag) : Bool := (List.range 13).all fun k => xfB K (exC K k) && (oT (PySem.W.kitOne K (.ref (exC K k)) (.type "ValueError")) true && (List.range 13).all fun i => oT (PySem.W.kitOne K (.ref (exC K i)) (.ref (exC K k))) (decide (k = 0) || decide (i = k)))
theorem pkE_ok {K : PySem.W.Frag} (h : pkE K = true) {k : Nat} (hk : k < 13) : XF K (exC K k) ∧ PySem.W.kitOne K (.ref (exC K k)) (.type "ValueError") = some true ∧
    ∀ (i : Nat) (b : Bool), (exMs k)[i]? = some b → PySem.W.kitOne K (.ref (exC K i)) (.ref (exC K k)) = some b := by
  have h := List.all_eq_true.mp h k (List.mem_range.mpr hk)
  obtain ⟨c1, h⟩ := He.ba h
  obtain ⟨c2, c3⟩ := He.ba h
  refine ⟨xfB_ok c1, of_decide_eq_true c2, fun i b hb => ?_⟩
  unfold exMs at hb
  rw [List.getElem?_map] at hb
  have hi : i < 13 := by
    cases q : (List.range 13)[i]? with
    | none => rw [q] at hb; cases hb
    | some j => have := (List.getElem?_eq_some_iff.mp q).1; simpa using this
  rw [List.getElem?_range hi] at hb
  cases hb
  exact of_decide_eq_true (List.all_eq_true.mp c3 i (List.mem_range.mpr hi))
def faOf : Str × Gk → List He.Fa
  | (x, .bi) => [.free x]
  | (x, .cn (.int i)) => [.int x i]
  | (x, .cn (.str z)) => [.str x z]
  | (x, .cn _) => [.free x]
  | (x, .fn) => [.glo x]
  | (x, .ex _ ms) => .glo x :: .exc x :: (exNm.zip ms).map fun p => .exm p.1 x p.2
  | (x, .bx _) => [.free x]
  | (x, .hot _) => [.glo x]
/-- no errors -/
def noE : Str × Gk → Bool
  | (_, .ex _ _) => false
  | (_, .bx _) => false
  | (_, .hot _) => false
  | _ => true
def okG : Str × Gk → Bool
  | (_, .cn (.int _)) => true
  | (_, .cn (.str _)) => true
  | (_, .cn _) => false
  | (x, .ex k ms) => decide (exNm[k]? = some x) && (decide (ms = []) || decide (ms = exMs k))
  | (x, .bx ms) => decide (x = "ValueError") && decide (ms = allT)
  | _ => true
def fnOfT (R : List Rw) : List He.DefD := R.map Rw.df
def faOfT (R : List Rw) (G : List (Str × Gk)) : List He.Fa := R.map (fun r => He.Fa.glo r.d.x) ++ G.flatMap faOf
def fdsOf (R : List Rw) : List FD := R.map (·.d)
theorem look_mem {α : Type} : ∀ {l : List (Str × α)} {x : Str} {v : α}, l.lookup x = some v → (x, v) ∈ l
  | (n, w) :: l, x, v, h => by
    rw [List.lookup_cons] at h
    cases q : x == n with
    | true => rw [q] at h; cases h; rw [eq_of_beq q]; exact List.mem_cons_self
    | false => rw [q] at h; exact List.mem_cons_of_mem _ (look_mem h)
section
variable {R : List Rw} {G : List (Str × Gk)} {K : PySem.W.Frag} {h : Heap} {mg : Str → Option Value}
theorem says_at {α : Type} {l : List α} {x : α} (hx : x ∈ l) : ∃ i : Nat, l[i]? = some x := List.getElem?_of_mem hx
/-- the defs that are called within an except suite -/
def HotOk (R : List Rw) (G : List (Str × Gk)) : Prop := ∀ (K : PySem.W.Frag) (h : Heap) (mg : Str → Option Value), K.In h → h.Ns mainGlobals mg → He.SaysD (faOfT R G) (fnOfT R) K → pkE K = true → ∀ x tab, (x, Gk.hot tab) ∈ G →
  ∃ f fd px, mg x = some (.ref f) ∧ PySem.W.keepIn K (.ref f) = true ∧ Binds K fd [px] [] ∧ ∀ (P : Program) (w : World) (base : Heap), FnE P w K mg base f fd px tab
theorem glob_of (X : K.In h) (N : h.Ns mainGlobals mg) (c : He.SaysD (faOfT R G) (fnOfT R) K) (hG : G.all okG = true) (hE : G.all noE = true ∨ (pkE K = true ∧ HotOk R G)) : ∀ x g, G.lookup x = some g → g.ok K mg (exC K) x := fun x g e => by
  have hm := look_mem e
  have fact : ∀ fa ∈ faOf (x, g), fa.ok K = true := fun fa hfa => by
    obtain ⟨i, hi⟩ := says_at (l := faOfT R G) (x := fa) (List.mem_append_right _ (List.mem_flatMap.mpr ⟨_, hm, hfa⟩))
    exact c.fact i hi
  have k := List.all_eq_true.mp hG _ hm
  have he : noE (x, g) = true ∨ (pkE K = true ∧ HotOk R G) := hE.imp (fun h => List.all_eq_true.mp h _ hm) id
  match g, fact, k with
  | .hot tab, _, _ =>
    rcases he with he | ⟨h1, h2⟩
    · cases he
    · exact ⟨rfl, h2 K h mg X N c h1 x tab hm⟩
  | .bx ms, f, h0 =>
    rcases he with he | ⟨h1, _⟩
    · cases he
    · simp only [okG, Bool.and_eq_true, decide_eq_true_eq] at h0
      obtain ⟨rfl, rfl⟩ := h0
      refine ⟨rfl, He.free_ok X N (f _ List.mem_cons_self), fun i b hb => ?_⟩
      have hi : i < 13 := by have := (List.getElem?_eq_some_iff.mp hb).1; simpa [allT] using this
      have eb : b = true := by
        unfold allT at hb
        rw [List.getElem?_replicate, if_pos hi] at hb
        exact (Option.some.inj hb).symm
      subst eb
      exact (pkE_ok h1 hi).2.1
  | .bi, f, _ => exact He.free_ok X N (f _ List.mem_cons_self)
  | .fn, _, _ => exact trivial
  | .cn (.int i), f, _ => obtain ⟨t, e⟩ := He.int_ok X N (f _ List.mem_cons_self); exact ⟨.int i, _, e, ⟨t, rfl⟩, fun _ _ => .int i⟩
  | .cn (.str z), f, _ => obtain ⟨t, e⟩ := He.str_ok X N (f _ List.mem_cons_self); exact ⟨.str z, _, e, ⟨t, rfl⟩, fun _ _ => .str z⟩
  | .ex k ms, f, h =>
    simp only [okG, Bool.and_eq_true, decide_eq_true_eq] at h
    obtain ⟨hx, hms⟩ := h
    have hl : ms.length ≤ exNm.length := by
      simp only [Bool.or_eq_true, decide_eq_true_eq] at hms
      rcases hms with e | e <;> rw [e]
      · exact Nat.zero_le _
      · simp [exMs, exNm]
    have hp : pkE K = true := by
      rcases he with he | ⟨h1, _⟩
      · cases he
      · exact h1
    have hk13 : k < 13 := (List.getElem?_eq_some_iff.mp hx).1
    obtain ⟨xf, _, kit⟩ := pkE_ok hp hk13
    have at_ : ∀ (i : Nat) (y : Str), exNm[i]? = some y → exC K i = He.ga K y := fun i y e => by
      unfold exC
      rw [List.getD_eq_getElem?_getD, e]; rfl
    have ex := at_ k x hx
    obtain ⟨a1, a2, a3, a4⟩ := He.exc_ok (f (.exc x) (List.mem_cons_of_mem _ List.mem_cons_self))
    refine ⟨⟨by rw [ex]; exact He.glo_ok X N (f _ List.mem_cons_self), by rw [ex]; exact a1, by rw [ex]; exact a2, by rw [ex]; exact a3, by rw [ex]; exact a4, rfl⟩, xf, fun i b hb => ⟨?_, ?_⟩⟩
    have hi : i < exNm.length := Nat.lt_of_lt_of_le (List.getElem?_eq_some_iff.mp hb).1 hl
    have hy := List.getElem?_eq_getElem hi
    rw [at_ i _ hy, ex]
    refine He.exm_ok (f (.exm exNm[i] x b) (List.mem_cons_of_mem _ (List.mem_cons_of_mem _ (List.mem_map.mpr ⟨(exNm[i], b), ?_, rfl⟩))))
    refine List.mem_of_getElem? (i := i) ?_
    rw [List.getElem?_zip_eq_some]
    exact ⟨hy, hb⟩
    simp only [Bool.or_eq_true, decide_eq_true_eq] at hms
    rcases hms with e | e
    · subst e; simp at hb
    · subst e; exact kit i b hb
theorem def_of (X : K.In h) (N : h.Ns mainGlobals mg) (c : He.SaysD (faOfT R G) (fnOfT R) K) (hR : ∀ r ∈ R, chkD (fdsOf R) G r.d r.st = true) (hB : ∀ r ∈ R, ∀ fm ∈ r.d.forms, BindEq r.d.x r.d.qual r.st r.d.ps fm) :
    ∀ (id : Nat) (r : Rw), R[id]? = some r → ∃ f fd, DOk K mg (fdsOf R) G r.d f fd := fun id r e => by
  have hm := List.mem_of_getElem? e
  obtain ⟨i, hi⟩ := says_at (l := faOfT R G) (x := He.Fa.glo r.d.x) (List.mem_append_left _ (List.mem_map_of_mem (f := fun r => He.Fa.glo r.d.x) hm))
  have m := He.glo_ok X N (c.fact i hi)
  obtain ⟨fd, F⟩ := c.def_ id (d := r.df) (by unfold fnOfT; rw [List.getElem?_map, e]; rfl)
  refine ⟨_, fd, ⟨r.st, ?_, m, hR r hm, hB r hm⟩⟩
  obtain ⟨oc, od, dV, kV, doc, pm, an, cdv, ct, osl, e1, e2, e3, e4, _⟩ := F.ex
  have e5 : dV = .none := by
    rcases e4 with ⟨_, e4⟩ | ⟨e4, _⟩
    · exact e4
    · exact (e4 rfl).elim
  subst e5
  exact ⟨⟨oc, od, kV, doc, pm, an, cdv, ct, osl, e1, e2, e3⟩, F.kp⟩
theorem def_at (X : K.In h) (N : h.Ns mainGlobals mg) (c : He.SaysD (faOfT R G) (fnOfT R) K) (id : Nat) {r : Rw} (e : R[id]? = some r) : ∃ f fd, Fun K r.d.x r.d.qual r.st f fd ∧ mg r.d.x = some (.ref f) := by
  have hm := List.mem_of_getElem? e
  obtain ⟨i, hi⟩ := says_at (l := faOfT R G) (x := He.Fa.glo r.d.x) (List.mem_append_left _ (List.mem_map_of_mem (f := fun r => He.Fa.glo r.d.x) hm))
  have m := He.glo_ok X N (c.fact i hi)
  obtain ⟨fd, F⟩ := c.def_ id (d := r.df) (by unfold fnOfT; rw [List.getElem?_map, e]; rfl)
  obtain ⟨oc, od, dV, kV, doc, pm, an, cdv, ct, osl, e1, e2, e3, e4, _⟩ := F.ex
  have e5 : dV = .none := by
    rcases e4 with ⟨_, e4⟩ | ⟨e4, _⟩
    · exact e4
    · exact (e4 rfl).elim
  subst e5
  exact ⟨_, fd, ⟨⟨oc, od, kV, doc, pm, an, cdv, ct, osl, e1, e2, e3⟩, F.kp⟩, m⟩
end
theorem law_ofP {l : PySem.W.OpenLaw} {m n nw id : Nat} {q : Program} {loose : List Str} {XP : (Str → Option Value) → Heap → Prop} {d : DefRec} {R : List Rw} {G : List (Str × Gk)} {r : Rw} {x : Str} {hk : PySem.W.Hook}
    (hs : ∀ w h, hk.says w h → ∃ K : PySem.W.Frag, K.In h ∧ He.SaysD (faOfT R G) (fnOfT R) K ∧ (G.all noE = true ∨ (pkE K = true ∧ HotOk R G)))
    (hn : l.most = some m) (hn2 : m ≤ sizeLine) (hdf : d.params.defaults = []) (hr : Room n callerA)
    (hG : G.all okG = true) (hR : ∀ r ∈ R, chkD (fdsOf R) G r.d r.st = true) (hB : ∀ r ∈ R, ∀ fm ∈ r.d.forms, BindEq r.d.x r.d.qual r.st r.d.ps fm)
    (hid : R[id]? = some r) (hx : r.d.ps = [x]) (hname : d.name = r.d.x) (hform : (⟨[], 1, [0]⟩ : Form) ∈ r.d.forms)
    (math : ∀ ns : List Int, ns.length ≤ m → ∃ outs, callF (fdsOf R) nw n id [.val (.lst (ns.map D.int))] = .ok (.val (.bl true)) outs) :
    PySem.W.WalkO q loose XP hk.says l.row.toRowW d [] (fun f vs => PySem.call f vs) := by
  refine walk_G (x := x) hn hn2 hdf hr fun w mg fa h Y N e => ?_
  obtain ⟨K, X, c, hE⟩ := hs w h Y
  have hT : ∀ (id : Nat) (d : FD), (fdsOf R)[id]? = some d → ∃ f fd, DOk K mg (fdsOf R) G d f fd := fun i d e => by
    unfold fdsOf at e
    rw [List.getElem?_map] at e
    cases q : R[i]? with
    | none => rw [q] at e; cases e
    | some r => rw [q] at e; cases e; exact def_of X N c hR hB i r q
  obtain ⟨f, fd, k⟩ := def_of X N c hR hB id r hid
  obtain ⟨st, F, e2, _, hb⟩ := k.ok
  rw [hname, e2] at e
  cases e
  have kb := KB.all F (hb _ hform).1 (hb _ hform).2
  refine ⟨K, fd, spF K (exC K) r.d.ps.length (callF (fdsOf R) nw n id), X, fun s u => ?_, fun H a ns h1 h2 h3 => ?_, fun base b1 b2 => ?_⟩
  · have z := @BindsTo.of_looks
    obtain ⟨oc, od, kV, doc, pm, an, cdv, ct, osl, e1, lk, hcd⟩ := F.ex
    have e := (hb _ hform).2 kV doc pm an cdv ct [u] [] rfl rfl
    rw [e1]
    refine .of_eq (e.trans ?_)
    rw [hx]
    rfl
  · obtain ⟨outs, e⟩ := math ns h1
    refine ⟨by rw [hx]; rfl, fun _ => False, [.val (.lst (ns.map D.int))], ⟨rfl, fun i v s g1 g2 => ?_, fun i j a ds es g1 g2 g3 g4 => ?_, fun a ⟨i, ds, g1, g2⟩ => ?_, fun a z => z.elim⟩, ?_⟩
    · have hi : i = 0 := by
        have := (List.getElem?_eq_some_iff.mp g1).1
        simp at this
        exact this
      subst hi
      simp at g1 g2
      subst g1; subst g2
      have rp : ∀ {O : Addr → Prop} (ns : List Int), Rps K H O (ns.map V.int) (ns.map D.int) := by
        intro O ns
        induction ns with
        | nil => exact .nil
        | cons n ns ih => exact .cons (.int n) ih
      refine .lst ?_ (rp ns)
      rcases h3 with z | z
      · refine .inl ⟨z, fun y => ?_⟩
        rcases y with ⟨i, ds, g1, g2⟩ | y
        · cases i with
          | zero => simp at g2
          | succ i => simp at g2
        · exact y
      · exact .inr (.inr z)
    · cases i with
      | zero => simp at g3
      | succ i => simp at g3
    · cases i with
      | zero => simp at g2
      | succ i => simp at g2
    · rw [e]
      intro v H' P
      have z := P.res
      cases z
      rfl
  · have := all_ok (P := l.prog) (w := w) (base := base) (cls := exC K) (nw := nw) hT (glob_of X N c hG hE) n id r.d _ fd (by unfold fdsOf; rw [List.getElem?_map, hid]; rfl) k
    rw [hx] at this ⊢
    exact this
theorem law_of {l : PySem.W.OpenLaw} {m n nw id : Nat} {q : Program} {loose : List Str} {XP : (Str → Option Value) → Heap → Prop} {d : DefRec} {R : List Rw} {G : List (Str × Gk)} {r : Rw} {x : Str} {hk : PySem.W.Hook}
    (hs : ∀ w h, hk.says w h → ∃ K : PySem.W.Frag, K.In h ∧ He.SaysD (faOfT R G) (fnOfT R) K)
    (hn : l.most = some m) (hn2 : m ≤ sizeLine) (hdf : d.params.defaults = []) (hr : Room n callerA)
    (hG : G.all okG = true) (hR : ∀ r ∈ R, chkD (fdsOf R) G r.d r.st = true) (hB : ∀ r ∈ R, ∀ fm ∈ r.d.forms, BindEq r.d.x r.d.qual r.st r.d.ps fm)
    (hid : R[id]? = some r) (hx : r.d.ps = [x]) (hname : d.name = r.d.x) (hform : (⟨[], 1, [0]⟩ : Form) ∈ r.d.forms)
    (math : ∀ ns : List Int, ns.length ≤ m → ∃ outs, callF (fdsOf R) nw n id [.val (.lst (ns.map D.int))] = .ok (.val (.bl true)) outs) (hE : G.all noE = true := by decide +kernel) :
    PySem.W.WalkO q loose XP hk.says l.row.toRowW d [] (fun f vs => PySem.call f vs) :=
  law_ofP (fun w h y => let ⟨K, a, b⟩ := hs w h y; ⟨K, a, b, .inl hE⟩) hn hn2 hdf hr hG hR hB hid hx hname hform math
/-! ### the hook of a law with errors -/
abbrev AlE : Type := He.AlD × Bool
def obsE (fa : List He.Fa) (fn : List He.DefD) (K : PySem.W.Frag) : AlE := (He.obsD fa fn K, pkE K)
def obsEG (n : Nat) (fa : List He.Fa) (fn : List He.DefD) (g : Addr → Option Obj) : AlE := obsE fa fn (He.frG g (He.asD g n))
def hookE (n : Nat) (fa : List He.Fa) (fn : List He.DefD) : PySem.W.Hook where
  α := AlE
  obs := fun s => obsEG n fa fn s.heap.get?
  val := fun _ => (He.valD fn, true)
  says := fun _ h => ∃ K : PySem.W.Frag, K.In h ∧ He.SaysD fa fn K ∧ pkE K = true
  of := fun _ _ e => ⟨_, He.frG_in, congrArg Prod.fst e, congrArg Prod.snd e⟩
  keeps := fun _ _ _ ⟨K, hK, c⟩ k => ⟨K, PySem.W.Frag.In.keeps hK k, c⟩
theorem obsEG_eq {n : Nat} {fa : List He.Fa} {fn : List He.DefD} {g : Addr → Option Obj} {s : Shared} (h : ∀ a, g a = s.heap.get? a) : obsEG n fa fn g = (hookE n fa fn).obs s := by
  have e : g = s.heap.get? := funext h
  rw [e] <;> rfl
theorem law_ofE {l : PySem.W.OpenLaw} {m n nw id : Nat} {q : Program} {loose : List Str} {XP : (Str → Option Value) → Heap → Prop} {d : DefRec} {R : List Rw} {G : List (Str × Gk)} {r : Rw} {x : Str} {hk : PySem.W.Hook}
    (hs : ∀ w h, hk.says w h → ∃ K : PySem.W.Frag, K.In h ∧ He.SaysD (faOfT R G) (fnOfT R) K ∧ pkE K = true) (hot : HotOk R G)
    (hn : l.most = some m) (hn2 : m ≤ sizeLine) (hdf : d.params.defaults = []) (hr : Room n callerA)
    (hG : G.all okG = true) (hR : ∀ r ∈ R, chkD (fdsOf R) G r.d r.st = true) (hB : ∀ r ∈ R, ∀ fm ∈ r.d.forms, BindEq r.d.x r.d.qual r.st r.d.ps fm)
    (hid : R[id]? = some r) (hx : r.d.ps = [x]) (hname : d.name = r.d.x) (hform : (⟨[], 1, [0]⟩ : Form) ∈ r.d.forms)
    (math : ∀ ns : List Int, ns.length ≤ m → ∃ outs, callF (fdsOf R) nw n id [.val (.lst (ns.map D.int))] = .ok (.val (.bl true)) outs) :
    PySem.W.WalkO q loose XP hk.says l.row.toRowW d [] (fun f vs => PySem.call f vs) :=
  law_ofP (fun w h y => let ⟨K, a, b, c⟩ := hs w h y; ⟨K, a, b, .inr ⟨c, hot⟩⟩) hn hn2 hdf hr hG hR hB hid hx hname hform math
end FL

set_option maxRecDepth 100000
set_option maxHeartbeats 4000000
/-! How one reasons about the evaluator. -/
namespace FL
open PySem PySem.Spec PyProof.Rows L2

theorem lt_ble {n m : Nat} (h : Nat.ble (n + 1) m = true) : n < m := Nat.le_of_ble_eq_true h
def Sat {α : Type} (r : R α) (P : α → FS → Prop) : Prop := match r with
  | .ok a S => P a S
  | _ => False
structure Po where
  nx : FS → Prop
  bk : FS → Prop := fun _ => False
  ct : FS → Prop := fun _ => False
  rt : Sv → FS → Prop := fun _ _ => False
def WS (o : O) (P : Po) : Prop := match o with
  | .nx S => P.nx S
  | .bk S => P.bk S
  | .ct S => P.ct S
  | .rt v S => P.rt v S
  | _ => False
def CS (r : CR) (P : Sv → List (Option Sv) → Prop) : Prop := match r with
  | .ok v o => P v o
  | _ => False
section
variable {α β : Type} {P : α → FS → Prop} {a : α} {S : FS} {k : Nat}
theorem sat_ok : Sat (.ok a S) P = P a S := rfl
theorem sat_no : Sat (.no : R α) P = False := rfl
theorem sat_ex : Sat (.ex k S : R α) P = False := rfl
theorem sat_bind {r : R β} {f : β → FS → R α} : Sat (r.bind f) P = Sat r fun b S => Sat (f b S) P := by cases r <;> rfl
theorem sat_some : Sat (.of (some a) S) P = P a S := rfl
theorem sat_none : Sat (.of (none : Option α) S) P = False := rfl
theorem sat_mono {r : R α} {P Q : α → FS → Prop} (h : Sat r P) (i : ∀ a S, P a S → Q a S) : Sat r Q := by
  cases r with
  | ok a S => exact i a S h
  | ex k S => exact h
  | no => exact h
theorem ws_mono {o : O} {P Q : Po} (h : WS o P) (n : ∀ S, P.nx S → Q.nx S) (b : ∀ S, P.bk S → Q.bk S) (c : ∀ S, P.ct S → Q.ct S) (r : ∀ v S, P.rt v S → Q.rt v S) : WS o Q := by
  cases o with
  | nx S => exact n S h
  | bk S => exact b S h
  | ct S => exact c S h
  | rt v S => exact r v S h
  | ex k S => exact h
  | no => exact h
theorem ws_toO {r : R α} {f : α → FS → O} {P : Po} : WS (r.toO f) P = Sat r fun a S => WS (f a S) P := by cases r <;> rfl
theorem ws_bind {o : O} {f : FS → O} {P : Po} : WS (o.bind f) P = WS o { P with nx := fun S => WS (f S) P } := by cases o <;> rfl
theorem w_ok (h : P a S) : Sat (.ok a S) P := h
theorem w_bind {r : R β} {f : β → FS → R α} (h : Sat r fun b S => Sat (f b S) P) : Sat (r.bind f) P := by rw [sat_bind]; exact h
theorem w_of {o : Option α} (e : o = some a) (h : P a S) : Sat (.of o S) P := by rw [e]; exact h
theorem w_toO {r : R α} {f : α → FS → O} {Q : Po} (h : Sat r fun a S => WS (f a S) Q) : WS (r.toO f) Q := by rw [ws_toO]; exact h
theorem w_seq {o : O} {f : FS → O} {Q : Po} (h : WS o { Q with nx := fun S => WS (f S) Q }) : WS (o.bind f) Q := by rw [ws_bind]; exact h
theorem w_nx {Q : Po} (h : Q.nx S) : WS (.nx S) Q := h
theorem w_rt {Q : Po} {v : Sv} (h : Q.rt v S) : WS (.rt v S) Q := h
theorem w_bk {Q : Po} (h : Q.bk S) : WS (.bk S) Q := h
theorem w_ct {Q : Po} (h : Q.ct S) : WS (.ct S) Q := h
/-- a branch -/
theorem w_ifS {c : Prop} [Decidable c] {b : Bool} {A B : O} {Q : Po} (hb : b = decide c) (h1 : c → WS A Q) (h2 : ¬ c → WS B Q) : WS (if b = true then A else B) Q := by
  subst hb
  by_cases h : c
  · rw [if_pos (decide_eq_true h)]; exact h1 h
  · rw [if_neg (by simpa using h)]; exact h2 h
theorem w_ifT {A B : O} {Q : Po} (h : WS A Q) : WS (if true = true then A else B) Q := h
theorem w_ifF {A B : O} {Q : Po} (h : WS B Q) : WS (if false = true then A else B) Q := h
theorem w_iteT {A B : R α} (h : Sat A P) : Sat (if true = true then A else B) P := h
theorem w_iteF {A B : R α} (h : Sat B P) : Sat (if false = true then A else B) P := h
theorem w_ifP {c : Prop} [Decidable c] {A B : R α} (hc : c) (h : Sat A P) : Sat (if c then A else B) P := by rw [if_pos hc]; exact h
theorem cs_ok {v : Sv} {o : List (Option Sv)} {P : Sv → List (Option Sv) → Prop} : CS (.ok v o) P = P v o := rfl
end
/-- a call -/
theorem w_call {F : List Sv → CR} {xs : List Arg} {S : FS} {ss : List Sv} {P : Arg → FS → Prop} (nd : (refsOf xs).Nodup) (hl : lendA S xs = some ss) (h : CS (F ss) fun r outs => P (.tmp r) (back S xs outs)) : Sat (calR F xs S) P := by
  unfold calR
  rw [if_pos nd, hl]
  dsimp only
  generalize F ss = q at h
  cases q with
  | ok r outs => exact h
  | ex k outs => exact h
  | no => exact h
theorem cs_mono {r : CR} {P Q : Sv → List (Option Sv) → Prop} (h : CS r P) (i : ∀ v o, P v o → Q v o) : CS r Q := by
  cases r with
  | ok v o => exact i v o h
  | ex k o => exact h
  | no => exact h
/-- a def's body -/
theorem cs_run {T : List FD} {nw n id : Nat} {d : FD} {ss : List Sv} {P : Sv → List (Option Sv) → Prop} (e : T[id]? = some d) (hl : ss.length = d.ps.length)
    (h : WS (evSs (callF T nw n) (lentOf ss) nw d.body (ss.map some ++ List.replicate (d.N.length - d.ps.length) none)) { nx := fun S => P (.val .non) (S.take d.ps.length), rt := fun v S => P v (S.take d.ps.length) }) : CS (callF T nw (n + 1) id ss) P := by
  rw [callF, e]
  show CS (runF _ _ _ ss) P
  unfold runF
  rw [if_pos hl]
  dsimp only
  generalize evSs (callF T nw n) (lentOf ss) nw d.body (ss.map some ++ List.replicate (d.N.length - d.ps.length) none) = q at h
  cases q with
  | nx S => exact h
  | rt v S => exact h
  | bk S => exact h
  | ct S => exact h
  | ex k S => exact h
  | no => exact h
theorem cs_at {T : List FD} {nw n id : Nat} {d : FD} {ss : List Sv} {P : Sv → List (Option Sv) → Prop} (S0 : FS) (L0 : List Bool) (b : Sms) (e : T[id]? = some d) (hl : ss.length = d.ps.length) (hS : ss.map some ++ List.replicate (d.N.length - d.ps.length) none = S0) (hL : lentOf ss = L0) (hb : d.body = b)
    (h : WS (evSs (callF T nw n) L0 nw b S0) { nx := fun S => P (.val .non) (S.take d.ps.length), rt := fun v S => P v (S.take d.ps.length) }) : CS (callF T nw (n + 1) id ss) P := by
  subst hS; subst hL; subst hb
  exact cs_run e hl h
section
variable {S : FS} {x y : Arg} {i j : Int} {P : Arg → FS → Prop}
theorem w_addI (hx : pk S x = some (.int i)) (hy : pk S y = some (.int j)) (h : P (.tmp (.val (.int (i + j)))) S) : Sat (.of ((pk S x).bind fun d => (pk S y).bind fun e => (binD .add d e).map Arg.tmp) S) P := by
  rw [hx, hy]; exact h
theorem w_subI (hx : pk S x = some (.int i)) (hy : pk S y = some (.int j)) (h : P (.tmp (.val (.int (i - j)))) S) : Sat (.of ((pk S x).bind fun d => (pk S y).bind fun e => (binD .sub d e).map Arg.tmp) S) P := by
  rw [hx, hy]; exact h
theorem w_addS {a b : Str} (hx : pk S x = some (.str a)) (hy : pk S y = some (.str b)) (hg : a.length + b.length ≤ lineN) (h : P (.tmp (.val (.str (a ++ b)))) S) : Sat (.of ((pk S x).bind fun d => (pk S y).bind fun e => (binD .add d e).map Arg.tmp) S) P := by
  rw [hx, hy]
  show Sat (.of ((binD .add (.str a) (.str b)).map Arg.tmp) S) P
  rw [binD, if_pos hg]; exact h
theorem w_addL {a b : List D} (hx : pk S x = some (.lst a)) (hy : pk S y = some (.lst b)) (hg : a.length + b.length ≤ lineN) (h : P (.tmp (.own (a ++ b))) S) : Sat (.of ((pk S x).bind fun d => (pk S y).bind fun e => (binD .add d e).map Arg.tmp) S) P := by
  rw [hx, hy]
  show Sat (.of ((binD .add (.lst a) (.lst b)).map Arg.tmp) S) P
  rw [binD, if_pos hg]; exact h
theorem w_mulS {a : Str} (hx : pk S x = some (.str a)) (hy : pk S y = some (.int j)) (hg : j < 1000000 ∧ -1000000 < j ∧ a.length * j.toNat ≤ lineN) (h : P (.tmp (.val (.str (Txt.mul a j)))) S) : Sat (.of ((pk S x).bind fun d => (pk S y).bind fun e => (binD .mul d e).map Arg.tmp) S) P := by
  rw [hx, hy]
  show Sat (.of ((binD .mul (.str a) (.int j)).map Arg.tmp) S) P
  rw [binD, if_pos hg]; exact h
theorem w_mul (hx : pk S x = some (.int i)) (hy : pk S y = some (.int j)) (hg : i.natAbs.log2 + j.natAbs.log2 < 1000000) (h : P (.tmp (.val (.int (i * j)))) S) : Sat (.of ((pk S x).bind fun d => (pk S y).bind fun e => (binD .mul d e).map Arg.tmp) S) P := by
  rw [hx, hy]
  show Sat (.of ((binD .mul (.int i) (.int j)).map Arg.tmp) S) P
  rw [binD, if_pos hg]; exact h
theorem w_fdiv (hx : pk S x = some (.int i)) (hy : pk S y = some (.int j)) (hg : 0 < j ∧ j.natAbs.log2 < 9000) (h : P (.tmp (.val (.int (i / j)))) S) : Sat (.of ((pk S x).bind fun d => (pk S y).bind fun e => (binD .fdiv d e).map Arg.tmp) S) P := by
  rw [hx, hy]
  show Sat (.of ((binD .fdiv (.int i) (.int j)).map Arg.tmp) S) P
  rw [binD, if_pos hg]; exact h
theorem w_mod (hx : pk S x = some (.int i)) (hy : pk S y = some (.int j)) (hg : 0 < j) (h : P (.tmp (.val (.int (i % j)))) S) : Sat (.of ((pk S x).bind fun d => (pk S y).bind fun e => (binD .mod d e).map Arg.tmp) S) P := by
  rw [hx, hy]
  show Sat (.of ((binD .mod (.int i) (.int j)).map Arg.tmp) S) P
  rw [binD, if_pos hg]; exact h
theorem w_pow (hx : pk S x = some (.int i)) (hy : pk S y = some (.int j)) (hg : 0 ≤ j ∧ (Builtin.Int.intBits i : Int) * j ≤ 134217728) (h : P (.tmp (.val (.int (i ^ j.toNat)))) S) : Sat (.of ((pk S x).bind fun d => (pk S y).bind fun e => (binD .pow d e).map Arg.tmp) S) P := by
  rw [hx, hy]
  show Sat (.of ((binD .pow (.int i) (.int j)).map Arg.tmp) S) P
  rw [binD, if_pos hg]; exact h
end
end FL

set_option maxRecDepth 100000
set_option maxHeartbeats 4000000
/-! The evaluator's steps, form by form. -/
namespace FL
open PySem PySem.Spec PyProof.Rows L2

section
variable {cl : Nat → List Sv → CR} {L : List Bool} {nw : Nat} {S : FS} {P : Arg → FS → Prop} {PA : List Arg → FS → Prop} {PT : Bool → FS → Prop} {PO : Option Int → FS → Prop} {Q : Po}
theorem e_sl {i : Nat} {d : D} (e : gt S i = some (.val d)) (h : P (.tmp (.val d)) S) : Sat (evE cl L (.sl i) S) P := by
  show Sat (rSlot i S) P; unfold rSlot; rw [e]; exact h
theorem e_so {i : Nat} {ds : Bx} (e : gt S i = some (.own ds)) (h : P (.ref i) S) : Sat (evE cl L (.sl i) S) P := by
  show Sat (rSlot i S) P; unfold rSlot; rw [e]; exact h
theorem e_cs {d : D} (h : P (.tmp (.val d)) S) : Sat (evE cl L (.cs d) S) P := h
theorem e_gl {x : Str} {d : D} (h : P (.tmp (.val d)) S) : Sat (evE cl L (.gl x d) S) P := h
theorem e_bin {o : BOp} {a b : Ex} (h : Sat (evE cl L a S) fun x S1 => Sat (evE cl L b S1) fun y S2 => Sat (.of ((pk S2 x).bind fun d => (pk S2 y).bind fun e => (binD o d e).map Arg.tmp) S2) P) : Sat (evE cl L (.bin o a b) S) P := by
  show Sat (rBin o _ _ S) P
  unfold rBin
  simp only [sat_bind]; exact h
theorem e_neg {a : Ex} (h : Sat (evE cl L a S) fun x S1 => ∃ i, pk S1 x = some (.int i) ∧ P (.tmp (.val (.int (-i)))) S1) : Sat (evE cl L (.neg a) S) P := by
  show Sat (rNeg _ S) P
  unfold rNeg
  rw [sat_bind]
  refine sat_mono h fun x S1 ⟨i, e, k⟩ => ?_
  rw [e]; exact k
theorem e_ix {a b : Ex} (h : Sat (evE cl L a S) fun x S1 => Sat (evE cl L b S1) fun y S2 => ∃ d e r, pk S2 x = some d ∧ pk S2 y = some e ∧ ixD d e = some r ∧ P (.tmp (.val r)) S2) : Sat (evE cl L (.ix a b) S) P := by
  show Sat (rIx _ _ S) P
  unfold rIx
  simp only [sat_bind]
  refine sat_mono h fun x S1 h => sat_mono h fun y S2 ⟨d, e, r, e1, e2, e3, k⟩ => ?_
  rw [e1, e2]
  show Sat (.of ((ixD d e).map _) S2) P
  rw [e3]; exact k
theorem e_cut {a : Ex} {l u : Oe} (h : Sat (evE cl L a S) fun x S1 => Sat (evO cl L l S1) fun i S2 => Sat (evO cl L u S2) fun j S3 => ∃ d r, pk S3 x = some d ∧ slD d i j = some r ∧ P (.tmp r) S3) : Sat (evE cl L (.cut a l u) S) P := by
  show Sat (rSl _ _ _ S) P
  unfold rSl
  simp only [sat_bind]
  refine sat_mono h fun x S1 h => sat_mono h fun y S2 h => sat_mono h fun z S3 ⟨d, r, e1, e2, k⟩ => ?_
  rw [e1]
  show Sat (.of ((slD d y z).map _) S3) P
  rw [e2]; exact k
theorem o_nil (h : PO none S) : Sat (evO cl L .nil S) PO := h
theorem o_some {a : Ex} (h : Sat (evE cl L a S) fun x S1 => ∃ i, pk S1 x = some (.int i) ∧ PO (some i) S1) : Sat (evO cl L (.some a) S) PO := by
  show Sat (rOSome _ S) PO
  unfold rOSome
  rw [sat_bind]
  refine sat_mono h fun x S1 ⟨i, e, k⟩ => ?_
  rw [e]; exact k
theorem e_ite {t : Tt} {a b : Ex} (h : Sat (evT cl L t S) fun c S1 => if c = true then Sat (evE cl L a S1) P else Sat (evE cl L b S1) P) : Sat (evE cl L (.ite t a b) S) P := by
  show Sat (rIte _ _ _ S) P
  unfold rIte
  rw [sat_bind]
  refine sat_mono h fun c S1 k => ?_
  cases c with
  | true => exact k
  | false => exact k
theorem e_tup {es : Exs} (h : Sat (evA cl L es S) fun xs S1 => ∃ ds S2, tks xs S1 = some (ds, S2) ∧ ds.length ≤ lineN ∧ P (.tmp (.val (.tup ds))) S2) : Sat (evE cl L (.tup es) S) P := by
  show Sat (rDisp _ _ S) P
  unfold rDisp
  rw [sat_bind]
  refine sat_mono h fun xs S1 ⟨ds, S2, e, hz, k⟩ => ?_
  rw [e]; dsimp only; rw [if_pos hz]; exact k
theorem e_lst {es : Exs} (h : Sat (evA cl L es S) fun xs S1 => ∃ ds S2, tks xs S1 = some (ds, S2) ∧ ds.length ≤ lineN ∧ P (.tmp (.own ds)) S2) : Sat (evE cl L (.lst es) S) P := by
  show Sat (rDisp _ _ S) P
  unfold rDisp
  rw [sat_bind]
  refine sat_mono h fun xs S1 ⟨ds, S2, e, hz, k⟩ => ?_
  rw [e]; dsimp only; rw [if_pos hz]; exact k
/-- values at hand, none of them a slot's list -/
def tupT : List FL.Arg → (List D → Prop) → Prop
  | [], N => N []
  | .tmp (.val d) :: xs, N => tupT xs fun ds => N (d :: ds)
  | .tmp (.own (.lst es)) :: xs, N => tupT xs fun ds => N (.lst es :: ds)
  | .tmp (.own _) :: _, _ => False
  | .ref _ :: _, _ => False
theorem tupT_tks : ∀ {xs : List FL.Arg} {N : List D → Prop} {S : FS}, tupT xs N → ∃ ds, tks xs S = some (ds, S) ∧ N ds
  | [], N, S, h => ⟨[], rfl, h⟩
  | .tmp (.val d) :: xs, N, S, h => by
    obtain ⟨ds, e, k⟩ := tupT_tks (xs := xs) (S := S) h
    exact ⟨d :: ds, by simp only [tks, tk, Option.bind_some, e], k⟩
  | .tmp (.own (.dk _)) :: _, _, _, h => h.elim
  | .tmp (.own (.dt _)) :: _, _, _, h => h.elim
  | .tmp (.own (.lst es)) :: xs, N, S, h => by
    obtain ⟨ds, e, k⟩ := tupT_tks (xs := xs) (S := S) h
    exact ⟨.lst es :: ds, by simp only [tks, tk, Option.bind_some, e], k⟩
theorem u_nil {N : List D → Prop} (h : N []) : tupT [] N := h
theorem u_val {d : D} {xs : List FL.Arg} {N : List D → Prop} (h : tupT xs fun ds => N (d :: ds)) : tupT (.tmp (.val d) :: xs) N := h
theorem u_own {es : List D} {xs : List FL.Arg} {N : List D → Prop} (h : tupT xs fun ds => N (.lst es :: ds)) : tupT (.tmp (.own es) :: xs) N := h
theorem line_le {n : Nat} (h : n ≤ 16777216) : n ≤ lineN := by rw [lineN_val]; exact h
theorem e_tupT {es : Exs} (h : Sat (evA cl L es S) fun xs S1 => tupT xs fun ds => ds.length ≤ lineN ∧ P (.tmp (.val (.tup ds))) S1) : Sat (evE cl L (.tup es) S) P :=
  e_tup (sat_mono h fun xs S1 k => by obtain ⟨ds, e, q⟩ := tupT_tks (S := S1) k; exact ⟨ds, S1, e, q⟩)
theorem e_lstT {es : Exs} (h : Sat (evA cl L es S) fun xs S1 => tupT xs fun ds => ds.length ≤ lineN ∧ P (.tmp (.own ds)) S1) : Sat (evE cl L (.lst es) S) P :=
  e_lst (sat_mono h fun xs S1 k => by obtain ⟨ds, e, q⟩ := tupT_tks (S := S1) k; exact ⟨ds, S1, e, q⟩)
theorem e_stl {a : Ex} {es : Exs} (h : Sat (evE cl L a S) fun x S1 => ∃ d ds, pk S1 x = some d ∧ itsD d = some ds ∧ Sat (evA cl L es S1) fun xs S2 => tupT xs fun es => (ds ++ es).length ≤ lineN ∧ P (.tmp (.own (ds ++ es))) S2) : Sat (evE cl L (.stl a es) S) P := by
  have key : ∀ (ds : List D) {xs : List FL.Arg} {N : List D → Prop}, (tupT xs fun es => N (ds ++ es)) → tupT (ds.map (fun d => FL.Arg.tmp (.val d)) ++ xs) N := by
    intro ds
    induction ds with
    | nil => exact fun h => h
    | cons d ds ih => exact fun h => ih h
  show Sat (rDisp _ (rStar _ _) S) P
  unfold rDisp rStar
  simp only [sat_bind]
  refine sat_mono h fun x S1 ⟨d, ds, e1, e2, h⟩ => ?_
  rw [e1, Option.bind_some, e2]
  dsimp only
  simp only [sat_bind, sat_ok]
  refine sat_mono h fun xs S2 k => ?_
  obtain ⟨es, e3, hz, k⟩ := tupT_tks (S := S2) (key ds (N := fun es => es.length ≤ lineN ∧ P (.tmp (.own es)) S2) k)
  rw [e3]; dsimp only; rw [if_pos hz]; exact k
theorem a_nil (h : PA [] S) : Sat (evA cl L .nil S) PA := h
theorem a_cons {a : Ex} {r : Exs} (h : Sat (evE cl L a S) fun x S1 => Sat (evA cl L r S1) fun xs S2 => PA (x :: xs) S2) : Sat (evA cl L (.cons a r) S) PA := by
  show Sat (rCons _ _ S) PA
  unfold rCons
  simp only [sat_bind]; exact h
theorem e_bo {o : BoolOp} {es : Exs} (h : Sat (evB cl L o es S) P) : Sat (evE cl L (.bo o es) S) P := h
theorem b_one {o : BoolOp} {a : Ex} (h : Sat (evE cl L a S) P) : Sat (evB cl L o (.cons a .nil) S) P := h
theorem b_and {a b : Ex} {r : Exs} (h : Sat (evE cl L a S) fun x S1 => ∃ k, (pk S1 x).bind truD = some k ∧ (if k = true then Sat (evB cl L .And (.cons b r) S1) P else P x S1)) : Sat (evB cl L .And (.cons a (.cons b r)) S) P := by
  show Sat (rAndV _ _ S) P
  unfold rAndV
  simp only [sat_bind]
  refine sat_mono h fun x S1 ⟨k, e, q⟩ => ?_
  rw [e]
  show Sat (if k = true then _ else _) P
  cases k with
  | true => exact q
  | false => exact q
theorem b_or {a b : Ex} {r : Exs} (h : Sat (evE cl L a S) fun x S1 => ∃ k, (pk S1 x).bind truD = some k ∧ (if k = true then P x S1 else Sat (evB cl L .Or (.cons b r) S1) P)) : Sat (evB cl L .Or (.cons a (.cons b r)) S) P := by
  show Sat (rOrV _ _ S) P
  unfold rOrV
  simp only [sat_bind]
  refine sat_mono h fun x S1 ⟨k, e, q⟩ => ?_
  rw [e]
  show Sat (if k = true then _ else _) P
  cases k with
  | true => exact q
  | false => exact q
theorem e_notV {a : Ex} (h : Sat (evE cl L a S) fun x S1 => ∃ k, (pk S1 x).bind truD = some k ∧ P (.tmp (.val (.bl (!k)))) S1) : Sat (evE cl L (.notV a) S) P := by
  show Sat (rNotV _ S) P
  unfold rNotV
  simp only [sat_bind]
  refine sat_mono h fun x S1 ⟨k, e, q⟩ => ?_
  rw [e]; exact q
theorem t_cmp {o : COp} {a b : Ex} (h : Sat (evE cl L a S) fun x S1 => Sat (evE cl L b S1) fun y S2 => ∃ d e r, pk S2 x = some d ∧ pk S2 y = some e ∧ cmpD o d e = some r ∧ PT r S2) : Sat (evT cl L (.cmp o a b) S) PT := by
  show Sat (rCmp o _ _ S) PT
  unfold rCmp
  simp only [sat_bind]
  refine sat_mono h fun x S1 h => sat_mono h fun y S2 ⟨d, e, r, e1, e2, e3, k⟩ => ?_
  rw [e1, e2]
  show Sat (.of (cmpD o d e) S2) PT
  rw [e3]; exact k
theorem t_chn {o p : COp} {a b c : Ex} (h : Sat (evE cl L a S) fun x S1 => Sat (evE cl L b S1) fun y S2 => ∃ d e r, pk S2 x = some d ∧ pk S2 y = some e ∧ cmpD o d e = some r ∧
    (if r = true then Sat (evE cl L c S2) fun z S3 => ∃ e f r, pk S3 y = some e ∧ pk S3 z = some f ∧ cmpD p e f = some r ∧ PT r S3 else PT false S2)) : Sat (evT cl L (.chn o p a b c) S) PT := by
  show Sat (rChn o p _ _ _ S) PT
  unfold rChn
  simp only [sat_bind]
  refine sat_mono h fun x S1 h => sat_mono h fun y S2 ⟨d, e, r, e1, e2, e3, k⟩ => ?_
  rw [e1, e2]
  show Sat (.of (cmpD o d e) S2) _
  rw [e3]
  show Sat (if r = true then _ else _) PT
  cases r with
  | true =>
    show Sat (R.bind _ _) PT
    rw [sat_bind]
    refine sat_mono (show Sat _ _ from k) fun z S3 ⟨e, f, r, e1, e2, e3, k⟩ => ?_
    rw [e1, e2]
    show Sat (.of (cmpD p e f) S3) PT
    rw [e3]; exact k
  | false => exact k
theorem e_cmpV {o : COp} {a b : Ex} (h : Sat (evT cl L (.cmp o a b) S) fun k S1 => P (.tmp (.val (.bl k))) S1) : Sat (evE cl L (.cmpV o a b) S) P := by
  show Sat (rB2V (rCmp o _ _) S) P
  unfold rB2V
  rw [sat_bind]; exact h
theorem e_chnV {o p : COp} {a b c : Ex} (h : Sat (evT cl L (.chn o p a b c) S) fun k S1 => P (.tmp (.val (.bl k))) S1) : Sat (evE cl L (.chnV o p a b c) S) P := by
  show Sat (rB2V (rChn o p _ _ _) S) P
  unfold rB2V
  rw [sat_bind]; exact h
theorem t_not {t : Tt} (h : Sat (evT cl L t S) fun k S1 => PT (!k) S1) : Sat (evT cl L (.not t) S) PT := by
  show Sat (rNot _ S) PT
  unfold rNot
  rw [sat_bind]; exact h
theorem t_tru {a : Ex} (h : Sat (evE cl L a S) fun x S1 => ∃ k, (pk S1 x).bind truD = some k ∧ PT k S1) : Sat (evT cl L (.tru a) S) PT := by
  show Sat (rTru _ S) PT
  unfold rTru
  rw [sat_bind]
  refine sat_mono h fun x S1 ⟨k, e, q⟩ => ?_
  rw [e]; exact q
theorem t_bo {o : BoolOp} {ts : Tts} (h : Sat (evW cl L o ts S) PT) : Sat (evT cl L (.bo o ts) S) PT := h
theorem w_one {o : BoolOp} {a : Tt} (h : Sat (evT cl L a S) PT) : Sat (evW cl L o (.cons a .nil) S) PT := h
theorem w_and {a b : Tt} {r : Tts} (h : Sat (evT cl L a S) fun k S1 => if k = true then Sat (evW cl L .And (.cons b r) S1) PT else PT false S1) : Sat (evW cl L .And (.cons a (.cons b r)) S) PT := by
  show Sat (rAnd _ _ S) PT
  unfold rAnd
  rw [sat_bind]
  refine sat_mono h fun k S1 q => ?_
  cases k with
  | true => exact q
  | false => exact q
theorem w_or {a b : Tt} {r : Tts} (h : Sat (evT cl L a S) fun k S1 => if k = true then PT true S1 else Sat (evW cl L .Or (.cons b r) S1) PT) : Sat (evW cl L .Or (.cons a (.cons b r)) S) PT := by
  show Sat (rOr _ _ S) PT
  unfold rOr
  rw [sat_bind]
  refine sat_mono h fun k S1 q => ?_
  cases k with
  | true => exact q
  | false => exact q
theorem e_blt {b : Blt} {es : Exs} (h : Sat (evA cl L es S) fun xs S1 => ∃ ds r, pks S1 xs = some ds ∧ bltD b ds = some r ∧ P (.tmp r) S1) : Sat (evE cl L (.blt b es) S) P := by
  show Sat (rBlt b _ S) P
  unfold rBlt
  rw [sat_bind]
  refine sat_mono h fun xs S1 ⟨ds, r, e1, e2, k⟩ => ?_
  rw [e1]
  show Sat (.of ((bltD b ds).map _) S1) P
  rw [e2]; exact k
theorem e_isi {ts : List Ty} {m : Bool} {a : Ex} (h : Sat (evE cl L a S) fun x S1 => ∃ d, pk S1 x = some d ∧ P (.tmp (.val (.bl (ts.any (isiD d))))) S1) : Sat (evE cl L (.isi ts m a) S) P := by
  show Sat (rIsi ts _ S) P
  unfold rIsi
  rw [sat_bind]
  refine sat_mono h fun x S1 ⟨d, e, k⟩ => ?_
  rw [e]; exact k
theorem e_mk {x : Str} {k : Nat} {a : Ex} (h : Sat (evE cl L a S) fun x S1 => ∃ z, pk S1 x = some (.str z) ∧ P (.tmp (.val (.exc k))) S1) : Sat (evE cl L (.mk x k a) S) P := by
  show Sat (rMk k _ S) P
  unfold rMk
  rw [sat_bind]
  refine sat_mono h fun x S1 ⟨z, e, k⟩ => ?_
  rw [e]; exact k
theorem e_isx {cs : List (Str × List Bool)} {a : Ex} (h : Sat (evE cl L a S) fun x S1 => ∃ d b, pk S1 x = some d ∧ isxD (cs.map (·.2)) d = some b ∧ P (.tmp (.val (.bl b))) S1) : Sat (evE cl L (.isx cs a) S) P := by
  show Sat (rIsx _ _ S) P
  unfold rIsx
  rw [sat_bind]
  refine sat_mono h fun x S1 ⟨d, b, e, e2, k⟩ => ?_
  rw [e]
  show Sat (.of ((isxD _ d).map _) S1) P
  rw [e2]; exact k
theorem e_mth {i : Nat} {m : Mth} {es : Exs} (ho : isLst S i = true) (h : Sat (evA cl L es S) fun xs S1 => ∃ as S2, ∃ ds : List D, ∃ r, ∃ ds' : List D, tks xs S1 = some (as, S2) ∧ gt S2 i = some (.own ds) ∧ mthD m ds as = some (r, ds') ∧ P (.tmp (.val r)) (st S2 i (some (.own ds')))) : Sat (evE cl L (.mth i m es) S) P := by
  show Sat (rMth i m _ S) P
  unfold rMth
  rw [if_pos ho, sat_bind]
  refine sat_mono h fun xs S1 ⟨as, S2, ds, r, ds', e1, e2, e3, k⟩ => ?_
  rw [e1]; dsimp only; rw [e2]; dsimp only; rw [e3]; exact k
theorem e_cal {id : Nat} {ks : List Str} {np : Nat} {perm : List Nat} {es gs : Exs} (h : Sat (evA cl L es S) fun xs S1 => xs.length = np ∧ Sat (evA cl L gs S1) fun zs S2 => zs.length = ks.length ∧ Sat (calR (cl id) (permA perm (xs ++ zs)) S2) P) : Sat (evE cl L (.cal id ks np perm es gs) S) P := by
  show Sat (rCall _ perm np _ _ _ S) P
  unfold rCall
  rw [sat_bind]
  refine sat_mono h fun xs S1 ⟨e, h⟩ => ?_
  rw [if_pos e, sat_bind]
  refine sat_mono h fun zs S2 ⟨e, h⟩ => ?_
  rw [if_pos e]; exact h
theorem e_lrg {a : Ex} (h : Sat (evE cl L a S) fun x S1 => ∃ n, pk S1 x = some (.int n) ∧ (n ≤ 16777216 ∧ -16777216 ≤ n) ∧ P (.tmp (.own (rngD 0 n.toNat))) S1) : Sat (evE cl L (.lrg a) S) P := by
  show Sat (rLrg _ S) P
  unfold rLrg
  rw [sat_bind]
  refine sat_mono h fun x S1 ⟨n, e, hz, k⟩ => ?_
  rw [e]; dsimp only; rw [if_pos hz]; exact k
theorem e_u1 {o : U1} {a : Ex} (h : u1Ok o S = true ∧ Sat (evE cl L a S) fun x S1 => ∃ d sv, pk S1 x = some d ∧ u1D o S1 d = some sv ∧ P (.tmp sv) S1) : Sat (evE cl L (.u1 o a) S) P := by
  show Sat (rU1 o _ S) P
  unfold rU1
  rw [if_pos h.1, sat_bind]
  refine sat_mono h.2 fun x S1 ⟨d, sv, e1, e2, k⟩ => ?_
  rw [e1, Option.bind_some, e2]; exact k
theorem e_sct {i : Nat} {b : Ex} (h : ∃ s, gt S i = some (.val (.str s)) ∧ Sat (evE cl L b S) fun y S1 => ∃ u, pk S1 y = some (.str u) ∧ P (.tmp (.val (.int (Txt.count s u)))) S1) : Sat (evE cl L (.sct i b) S) P := by
  obtain ⟨s, e0, h⟩ := h
  show Sat (rSct i _ S) P
  unfold rSct
  rw [e0]; dsimp only
  refine w_bind (sat_mono h fun y S1 ⟨u, e1, h⟩ => ?_)
  rw [e1]; exact h
theorem e_rpl {es : Exs} (h : Sat (evA cl L es S) fun xs S1 => ∃ ds sv, pks S1 xs = some ds ∧ ds.length ≤ lineN ∧ bltD .repr [.lst ds] = some sv ∧ P (.tmp sv) S1) : Sat (evE cl L (.rpl es) S) P := by
  show Sat (rRpl _ S) P
  unfold rRpl
  refine w_bind (sat_mono h fun xs S1 ⟨ds, sv, e1, e2, e3, h⟩ => ?_)
  rw [e1, Option.bind_some, if_pos e2, e3]; exact h
theorem e_d1 {es : Exs} {a : Ex} (h : Sat (evA cl L es S) fun ys S1 => ∃ kds ky, pks S1 ys = some kds ∧ keysD kds = some ky ∧ ky.length ≤ lineN ∧ Sat (evE cl L a S1) fun x S2 => ∃ d S3, tk S2 x = some (d, S3) ∧ P (.tmp (.own (.dt [(ky, d)]))) S3) : Sat (evE cl L (.d1 es a) S) P := by
  show Sat (rD1 _ _ S) P
  unfold rD1
  refine w_bind (sat_mono h fun ys S1 ⟨kds, ky, e1, e2, e3, h⟩ => ?_)
  rw [e1, Option.bind_some, e2]; dsimp only; rw [if_pos e3]
  refine w_bind (sat_mono h fun x S2 ⟨d, S3, e4, h⟩ => ?_)
  rw [e4]; exact h
theorem e_idx {a b : Ex} (h : Sat (evE cl L a S) fun x S1 => ∃ ds0, pk S1 x = some (.lst ds0) ∧ Sat (evE cl L b S1) fun y S2 => ∃ ds e k, pk S2 x = some (.lst ds) ∧ pk S2 y = some e ∧ idxD ds e = some k ∧ P (.tmp (.val (.int (k : Nat)))) S2) : Sat (evE cl L (.idx a b) S) P := by
  show Sat (rIdx _ _ S) P
  unfold rIdx
  refine w_bind (sat_mono h fun x S1 ⟨ds0, e0, h⟩ => ?_)
  rw [e0]
  refine w_bind (sat_mono h fun y S2 ⟨ds, e, k, e1, e2, e3, h⟩ => ?_)
  rw [e1, Option.bind_some, e2, Option.bind_some]; dsimp only; rw [e3]; exact h
theorem e_dgv {i : Nat} {a b : Ex} (h : isDic S i = true ∧ Sat (evE cl L a S) fun x S1 => Sat (evE cl L b S1) fun y S2 => ∃ d e r, pk S2 x = some d ∧ pk S2 y = some e ∧ dGet2 S2 i d e = some r ∧ P (.tmp (.val r)) S2) : Sat (evE cl L (.dgv i a b) S) P := by
  show Sat (rDgv i _ _ S) P
  unfold rDgv
  rw [if_pos h.1]
  refine w_bind (sat_mono h.2 fun x S1 h => w_bind (sat_mono h fun y S2 ⟨d, e, r, e1, e2, e3, h⟩ => ?_))
  rw [e1, Option.bind_some, e2, Option.bind_some, e3]; exact h
theorem s_kput {i j : Nat} {es : Exs} {e : Ex} (h : Sat (evA cl L es S) fun ys S1 => ∃ ds S2 ky, tks ys S1 = some (ds, S2) ∧ keysD ds = some ky ∧ (ky.length ≤ lineN ∧ isL L j = false ∧ j < S2.length) ∧ Sat (evE cl L e (st S2 j (some (.val (.tup ds))))) fun x S4 => ∃ d S5 kvs, tk S4 x = some (d, S5) ∧ gt S5 i = some (.own (.dt kvs)) ∧ kvs.length < lineN ∧ Q.nx (st S5 i (some (.own (.dt (dPut kvs ky d)))))) :
    WS (evS cl L nw (.kput i j es e) S) Q := by
  show WS (sKput L i j _ _ S) Q
  unfold sKput
  rw [ws_toO]
  refine sat_mono h fun ys S1 ⟨ds, S2, ky, e1, e2, e3, h⟩ => ?_
  rw [e1]; dsimp only; rw [e2]; dsimp only; rw [if_pos e3, ws_toO]
  refine sat_mono h fun x S4 ⟨d, S5, kvs, e4, e5, e6, h⟩ => ?_
  rw [e4]; dsimp only; rw [e5]; dsimp only; rw [if_pos e6]; exact h
theorem e_lct {i : Nat} {a : Ex} {ds0 : List D} (e0 : gt S i = some (.own (.lst ds0))) (h : Sat (evE cl L a S) fun y S1 => ∃ ds ns k, gt S1 i = some (.own (.lst ds)) ∧ pk S1 y = some (.int k) ∧ intsOf ds = some ns ∧ P (.tmp (.val (.int ((ns.count k : Nat) : Int)))) S1) : Sat (evE cl L (.lct i a) S) P := by
  show Sat (rLct i _ S) P
  unfold rLct
  rw [e0]; dsimp only
  refine w_bind (sat_mono h fun y S1 ⟨ds, ns, k, e1, e2, e3, h⟩ => ?_)
  rw [e1, e2]; dsimp only; rw [e3]; exact h
theorem e_frz {i : Nat} {kvs : List (Key × D)} {ns : List (Int × Int)} (e1 : gt S i = some (.own (.dk kvs))) (e2 : dicI kvs = some ns) (h : P (.tmp (.val (.dic ns))) (st S i (some (.val (.dic ns))))) : Sat (evE cl L (.frz i) S) P := by
  show Sat (rFrz i S) P
  unfold rFrz
  rw [e1]; dsimp only; rw [e2]; exact h
theorem e_fd {a b : Ex} (h : Sat (evE cl L a S) fun x S1 => Sat (evE cl L b S1) fun y S2 => ∃ i j, pk S2 x = some (.int i) ∧ pk S2 y = some (.int j) ∧ P (.tmp (.val (.dic [(i, j)]))) S2) : Sat (evE cl L (.fd a b) S) P := by
  show Sat (rFd _ _ S) P
  unfold rFd
  refine w_bind (sat_mono h fun x S1 h => w_bind (sat_mono h fun y S2 ⟨i, j, e1, e2, h⟩ => ?_))
  rw [e1, e2]; exact h
theorem e_dls {a : Ex} (h : Sat (evE cl L a S) fun x S1 => ∃ ns, pk S1 x = some (.dic ns) ∧ P (.tmp (.own (.lst (ns.map fun p => D.int p.1)))) S1) : Sat (evE cl L (.dls a) S) P := by
  show Sat (rDls _ S) P
  unfold rDls
  refine w_bind (sat_mono h fun x S1 ⟨ns, e1, h⟩ => ?_)
  rw [e1]; exact h
theorem e_dgf {o a b : Ex} (h : Sat (evE cl L o S) fun z S0 => ∃ ns, pk S0 z = some (.dic ns) ∧ Sat (evE cl L a S0) fun x S1 => Sat (evE cl L b S1) fun y S2 => ∃ k n, pk S2 x = some (.int k) ∧ pk S2 y = some (.int n) ∧ P (.tmp (.val (.int ((dicGet ns k).getD n)))) S2) : Sat (evE cl L (.dgf o a b) S) P := by
  show Sat (rDgf _ _ _ S) P
  unfold rDgf
  refine w_bind (sat_mono h fun z S0 ⟨ns, e0, h⟩ => ?_)
  rw [e0]
  refine w_bind (sat_mono h fun x S1 h => w_bind (sat_mono h fun y S2 ⟨k, n, e1, e2, h⟩ => ?_))
  rw [e1, e2]; exact h
theorem e_d0t (h : P (.tmp (.own (.dt []))) S) : Sat (evE cl L (.d0 true) S) P := h
theorem e_d0k (h : P (.tmp (.own (.dk []))) S) : Sat (evE cl L (.d0 false) S) P := h
theorem t_dcm {ne : Bool} {i j : Nat} {a b : List (Key × D)} (e1 : gt S i = some (.own (.dk a))) (e2 : gt S j = some (.own (.dk b))) (e3 : dSame a b = true) (h : PT (!ne) S) : Sat (evT cl L (.dcm ne i j) S) PT := by
  show Sat (rDcm ne i j S) PT
  unfold rDcm
  rw [e1, e2]
  dsimp only
  rw [if_pos e3]
  exact h
theorem t_ite {t a b : Tt} (h : Sat (evT cl L t S) fun k S1 => if k = true then Sat (evT cl L a S1) PT else Sat (evT cl L b S1) PT) : Sat (evT cl L (.ite t a b) S) PT := by
  show Sat (rIfT _ _ _ S) PT
  unfold rIfT
  rw [sat_bind]
  refine sat_mono h fun k S1 q => ?_
  cases k with
  | true => exact q
  | false => exact q
theorem s_dput {i : Nat} {k e : Ex} (h : Sat (evE cl L e S) fun x S1 => isOwn S1 i = true ∧ Sat (evE cl L k S1) fun y S2 => ∃ kd ky d S3 kvs, pk S2 y = some kd ∧ keyD kd = some ky ∧ tk S2 x = some (d, S3) ∧ gt S3 i = some (.own (.dk kvs)) ∧ kvs.length < lineN ∧ Q.nx (st S3 i (some (.own (.dk (dPut kvs ky d)))))) :
    WS (evS cl L nw (.dput i k e) S) Q := by
  show WS (sDput i _ _ S) Q
  unfold sDput
  rw [ws_toO]
  refine sat_mono h fun x S1 ⟨e1, h⟩ => ?_
  rw [if_pos e1, ws_toO]
  refine sat_mono h fun y S2 ⟨kd, ky, d, S3, kvs, e1, e2, e3, e4, e5, k⟩ => ?_
  rw [e1, Option.bind_some, e2]; dsimp only; rw [e3]; dsimp only; rw [e4]; dsimp only; rw [if_pos e5]; exact k
theorem s_dpt {i : Nat} {es : Exs} {e : Ex} (h : Sat (evE cl L e S) fun x S1 => isOwn S1 i = true ∧ Sat (evA cl L es S1) fun ys S2 => ∃ kds ky d S3 kvs, pks S2 ys = some kds ∧ keysD kds = some ky ∧ tk S2 x = some (d, S3) ∧ gt S3 i = some (.own (.dt kvs)) ∧ (kvs.length < lineN ∧ ky.length ≤ lineN) ∧ Q.nx (st S3 i (some (.own (.dt (dPut kvs ky d)))))) :
    WS (evS cl L nw (.dpt i es e) S) Q := by
  show WS (sDpt i _ _ S) Q
  unfold sDpt
  rw [ws_toO]
  refine sat_mono h fun x S1 ⟨e1, h⟩ => ?_
  rw [if_pos e1, ws_toO]
  refine sat_mono h fun y S2 ⟨kd, ky, d, S3, kvs, e1, e2, e3, e4, e5, k⟩ => ?_
  rw [e1, Option.bind_some, e2]; dsimp only; rw [e3]; dsimp only; rw [e4]; dsimp only; rw [if_pos e5]; exact k
/-! statements -/
theorem s_nil (h : Q.nx S) : WS (evSs cl L nw .nil S) Q := h
theorem s_cons {s : Sm} {r : Sms} (h : WS (evS cl L nw s S) ⟨fun S1 => WS (evSs cl L nw r S1) Q, Q.bk, Q.ct, Q.rt⟩) : WS (evSs cl L nw (.cons s r) S) Q := by
  show WS (sSeq _ _ S) Q
  unfold sSeq
  rw [ws_bind]; exact h
theorem s_sk (h : Q.nx S) : WS (evS cl L nw .sk S) Q := h
theorem s_brk (h : Q.bk S) : WS (evS cl L nw .brk S) Q := h
theorem s_cnt (h : Q.ct S) : WS (evS cl L nw .cnt S) Q := h
theorem s_exp {e : Ex} (h : Sat (evE cl L e S) fun _ S1 => Q.nx S1) : WS (evS cl L nw (.exp e) S) Q := by
  show WS (sExp _ S) Q
  unfold sExp
  rw [ws_toO]; exact h
theorem s_ifs {t : Tt} {a b : Sms} (h : Sat (evT cl L t S) fun k S1 => if k = true then WS (evSs cl L nw a S1) Q else WS (evSs cl L nw b S1) Q) : WS (evS cl L nw (.ifs t a b) S) Q := by
  show WS (sIf _ _ _ S) Q
  unfold sIf
  rw [ws_toO]
  refine sat_mono h fun k S1 q => ?_
  cases k with
  | true => exact q
  | false => exact q
theorem put_go' {is : List Nat} {fs : FA} (h : Sat (fs S) fun xs S1 => ∃ ss S2 S3, svs S1 xs = some (ss, S2) ∧ stAll L is ss S2 = some S3 ∧ Q.nx S3) : WS (sPut L is fs S) Q := by
  unfold sPut
  rw [ws_toO]
  refine sat_mono h fun xs S1 ⟨ss, S2, S3, e1, e2, k⟩ => ?_
  rw [e1]; dsimp only; rw [e2]; exact k
theorem s_set {i : Nat} {e : Ex} (h : Sat (evE cl L e S) fun x S1 => ∃ ss S2 S3, svs S1 [x] = some (ss, S2) ∧ stAll L [i] ss S2 = some S3 ∧ Q.nx S3) : WS (evS cl L nw (.set i e) S) Q := by
  show WS (sPut L [i] (rCons _ rNil) S) Q
  refine put_go' ?_
  unfold rCons
  simp only [sat_bind]
  exact sat_mono h fun x S1 q => q
theorem s_setLc {i : Nat} {tg : Tg} {it : Itx} {cd : Tts} {elt : Ex} {own : List Nat} (h : Sat (evE cl L (.lc tg it cd elt own) S) fun x S1 => ∃ ss S2 S3, svs S1 [x] = some (ss, S2) ∧ stAll L [i] ss S2 = some S3 ∧ Q.nx S3) : WS (evS cl L nw (.setLc i tg it cd elt own) S) Q := by
  show WS (sPut L [i] (rCons _ rNil) S) Q
  refine put_go' ?_
  unfold rCons
  simp only [sat_bind]
  exact sat_mono h fun x S1 q => q
theorem s_par {b : Bool} {is : List Nat} {es : Exs} (h : Sat (evA cl L es S) fun xs S1 => ∃ ss S2 S3, svs S1 xs = some (ss, S2) ∧ stAll L is ss S2 = some S3 ∧ Q.nx S3) : WS (evS cl L nw (.par b is es) S) Q := put_go' h
theorem s_tgt {tg : Tg} {e : Ex} (h : Sat (evE cl L e S) fun x S1 => ∃ d S2 S3, tk S1 x = some (d, S2) ∧ asg L tg d S2 = some S3 ∧ Q.nx S3) : WS (evS cl L nw (.tgt tg e) S) Q := by
  show WS (sTgt L tg _ S) Q
  unfold sTgt
  rw [ws_toO]
  refine sat_mono h fun x S1 ⟨d, S2, S3, e1, e2, k⟩ => ?_
  rw [e1]; dsimp only; rw [e2]; exact k
theorem s_setT {i : Nat} {e : Ex} (h : Sat (evE cl L e S) fun x S1 => match x with
    | .tmp s => isL L i = false ∧ i < S1.length ∧ Q.nx (st S1 i (some s))
    | .ref j => ∃ ss S2 S3, svs S1 [.ref j] = some (ss, S2) ∧ stAll L [i] ss S2 = some S3 ∧ Q.nx S3) : WS (evS cl L nw (.set i e) S) Q := by
  refine s_set (sat_mono h fun x S1 k => ?_)
  cases x with
  | tmp s => exact ⟨[s], S1, _, rfl, by unfold stAll; rw [if_pos ⟨k.1, k.2.1⟩]; rfl, k.2.2⟩
  | ref j => exact k
/-- names = values, the values not of slots -/
def putT (L : List Bool) : List Nat → List Arg → FS → (FS → Prop) → Prop
  | [], [], S, N => N S
  | i :: is, .tmp s :: xs, S, N => isL L i = false ∧ i < S.length ∧ putT L is xs (st S i (some s)) N
  | _, _, _, _ => False
theorem p_nil {N : FS → Prop} (h : N S) : putT L [] [] S N := h
theorem p_cons {i : Nat} {is : List Nat} {s : Sv} {xs : List FL.Arg} {N : FS → Prop} (h1 : isL L i = false) (h2 : i < S.length) (h : putT L is xs (st S i (some s)) N) : putT L (i :: is) (.tmp s :: xs) S N := ⟨h1, h2, h⟩
theorem putT_st {N : FS → Prop} : ∀ {is : List Nat} {xs : List Arg} {S : FS}, putT L is xs S N → ∃ ss S3, svs S xs = some (ss, S) ∧ stAll L is ss S = some S3 ∧ N S3 := by
  have key : ∀ {is : List Nat} {xs : List Arg} {S S0 : FS}, putT L is xs S N → ∃ ss S3, svs S0 xs = some (ss, S0) ∧ stAll L is ss S = some S3 ∧ N S3 := by
    intro is
    induction is with
    | nil => intro xs S S0 h; cases xs with
      | nil => exact ⟨[], S, rfl, rfl, h⟩
      | cons x xs => exact h.elim
    | cons i is ih => intro xs S S0 h; cases xs with
      | nil => exact h.elim
      | cons x xs => cases x with
        | ref j => exact h.elim
        | tmp s =>
          obtain ⟨h1, h2, h3⟩ := h
          obtain ⟨ss, S3, e1, e2, e3⟩ := ih (S0 := S0) h3
          refine ⟨s :: ss, S3, ?_, ?_, e3⟩
          · simp only [svs, e1, Option.map_some]
          · simp only [stAll]; rw [if_pos ⟨h1, h2⟩]; exact e2
  intro is xs S h
  exact key h
theorem s_parT {b : Bool} {is : List Nat} {es : Exs} (h : Sat (evA cl L es S) fun xs S1 => putT L is xs S1 Q.nx) : WS (evS cl L nw (.par b is es) S) Q := by
  refine s_par (sat_mono h fun xs S1 k => ?_)
  obtain ⟨ss, S3, e1, e2, e3⟩ := putT_st k
  exact ⟨ss, S1, S3, e1, e2, e3⟩
/-- what a return hands out -/
def retA (L : List Bool) (x : Arg) (S1 : FS) (R : Sv → FS → Prop) : Prop := match x with
  | .tmp s => R s S1
  | .ref i => match gt S1 i with
    | some (.val d) => R (.val d) S1
    | some (.own b) => if isL L i = true then (match b with
      | .lst ds => R (.val (.lst ds)) (st S1 i (some (.val (.lst ds))))
      | _ => False) else R (.own b) (st S1 i none)
    | none => False
theorem ret_tmp {s : Sv} {R : Sv → FS → Prop} (h : R s S) : retA L (.tmp s) S R := h
theorem ret_own {i : Nat} {ds : Bx} {R : Sv → FS → Prop} (e : gt S i = some (.own ds)) (hl : isL L i = false) (h : R (.own ds) (st S i none)) : retA L (.ref i) S R := by
  unfold retA
  dsimp only
  rw [e]; dsimp only
  rw [if_neg (by rw [hl]; exact Bool.false_ne_true)]; exact h
theorem s_ret {e : Ex} (h : Sat (evE cl L e S) fun x S1 => retA L x S1 Q.rt) : WS (evS cl L nw (.ret e) S) Q := by
  show WS (sRet L _ S) Q
  unfold sRet
  rw [ws_toO]
  refine sat_mono h fun x S1 q => ?_
  unfold retA at q
  cases x with
  | tmp s => exact q
  | ref i =>
    dsimp only at q ⊢
    generalize gt S1 i = z at q
    match z, q with
    | some (.val d), q => exact q
    | some (.own ds), q =>
      dsimp only at q ⊢
      by_cases hl : isL L i = true
      · rw [if_pos hl] at q ⊢
        cases ds with
        | lst _ => exact q
        | _ => exact q.elim
      · rw [if_neg hl] at q ⊢; exact q
    | none, q => exact q.elim
theorem s_aug {i : Nat} {o : BOp} {e : Ex} {a : Int} (ha : gt S i = some (.val (.int a))) (h : Sat (evE cl L e S) fun x S1 => ∃ r, augD o a (pk S1 x) = some r ∧ isL L i = false ∧ Q.nx (st S1 i (some (.val (.int r))))) : WS (evS cl L nw (.aug i o e) S) Q := by
  show WS (sAug L i o _ S) Q
  unfold sAug
  rw [ha]; dsimp only
  rw [ws_toO]
  refine sat_mono h fun x S1 ⟨r, e1, e2, k⟩ => ?_
  rw [e1]; dsimp only; rw [if_pos e2]; exact k
theorem s_sub {i : Nat} {k e : Ex} (h : Sat (evE cl L e S) fun x S1 => isLst S1 i = true ∧ Sat (evE cl L k S1) fun y S2 => ∃ j d S3, ∃ ds : List D, ∃ n, pk S2 y = some (.int j) ∧ tk S2 x = some (d, S3) ∧ gt S3 i = some (.own ds) ∧ ixN ds.length j = some n ∧ Q.nx (st S3 i (some (.own (ds.set n d))))) :
    WS (evS cl L nw (.sub i k e) S) Q := by
  show WS (sSub i _ _ S) Q
  unfold sSub
  rw [ws_toO]
  refine sat_mono h fun x S1 ⟨e1, h⟩ => ?_
  rw [if_pos e1, ws_toO]
  refine sat_mono h fun y S2 ⟨j, d, S3, ds, n, e1, e2, e3, e4, k⟩ => ?_
  rw [e1]; dsimp only; rw [e2]; dsimp only; rw [e3]; dsimp only; rw [e4]; exact k
/-- for, by an invariant over what is left -/
theorem s_for {tg : Tg} {it : Itx} {b : Sms} (Inv : List D → FS → Prop) (h : Sat (evI cl L it S) fun p S1 => ∃ ds S2, tks p.1 S1 = some (ds, S2) ∧ Inv p.2.2 S2)
    (step : ∀ d ds S, Inv (d :: ds) S → ∃ S1, asg L tg d S = some S1 ∧ WS (evSs cl L nw b S1) ⟨Inv ds, Q.nx, Inv ds, Q.rt⟩) (done : ∀ S, Inv [] S → Q.nx S) : WS (evS cl L nw (.for_ tg it b) S) Q := by
  have key : ∀ (ds : List D) (S : FS), Inv ds S → WS (forL L tg (evSs cl L nw b) ds S) Q := by
    intro ds
    induction ds with
    | nil => intro S k; exact done S k
    | cons d ds ih =>
      intro S k
      obtain ⟨S1, e, w⟩ := step d ds S k
      unfold forL
      rw [e]; dsimp only
      generalize evSs cl L nw b S1 = q at w
      cases q with
      | nx S2 => exact ih S2 w
      | ct S2 => exact ih S2 w
      | bk S2 => exact w
      | rt v S2 => exact w
      | ex k S2 => exact w
      | no => exact w
  show WS (sFor L _ tg _ S) Q
  unfold sFor
  rw [ws_toO]
  refine sat_mono h fun p S1 ⟨ds, S2, e, k⟩ => ?_
  rw [e]; exact key _ _ k
/-- for over a list that is lent -/
theorem s_fori {tg : Tg} {a : Ex} {b : Sms} (Inv : List D → FS → Prop) (h : Sat (evE cl L a S) fun x S1 => ∃ ns, pk S1 x = some (.dic ns) ∧ Inv (kvItems ns) S1)
    (step : ∀ d ds S, Inv (d :: ds) S → ∃ S1, asg L tg d S = some S1 ∧ WS (evSs cl L nw b S1) ⟨Inv ds, Q.nx, Inv ds, Q.rt⟩) (done : ∀ S, Inv [] S → Q.nx S) : WS (evS cl L nw (.fori tg a b) S) Q := by
  have key : ∀ (ds : List D) (S : FS), Inv ds S → WS (forL L tg (evSs cl L nw b) ds S) Q := by
    intro ds
    induction ds with
    | nil => intro S k; exact done S k
    | cons d ds ih =>
      intro S k
      obtain ⟨S1, e1, w⟩ := step d ds S k
      simp only [forL]
      rw [e1]
      dsimp only
      cases q : evSs cl L nw b S1 with
      | nx S2 => rw [q] at w; exact ih S2 w
      | ct S2 => rw [q] at w; exact ih S2 w
      | bk S2 => rw [q] at w; exact w
      | rt r S2 => rw [q] at w; exact w
      | ex k S2 => rw [q] at w; exact w.elim
      | no => rw [q] at w; exact w.elim
  show WS (sForI L _ tg _ S) Q
  unfold sForI
  rw [ws_toO]
  refine sat_mono h fun x S1 ⟨ns, e1, h⟩ => ?_
  rw [e1]
  exact key _ _ h
theorem s_fork {tg : Tg} {it : Itx} {b : Sms} {i : Nat} {ds0 : List D} (Inv : List D → FS → Prop) (hl : isL L i = true) (own : ∀ ds S, Inv ds S → gt S i = some (.own ds0))
    (h : Sat (evI cl L it S) fun p S1 => p.1 = [.ref i] ∧ Inv p.2.2 S1)
    (step : ∀ d ds S, Inv (d :: ds) S → ∃ S1, asg L tg d S = some S1 ∧ WS (evSs cl L nw b S1) ⟨Inv ds, Q.nx, Inv ds, Q.rt⟩) (done : ∀ S, Inv [] S → Q.nx S) : WS (evS cl L nw (.fork tg it b) S) Q := by
  have ck : ∀ ds S, Inv ds S → chkR S [.ref i] [.lst ds0] = true := fun ds S k => by
    simp only [chkR, own ds S k, eqT_self, Bool.and_self]
  have key : ∀ (ds : List D) (S : FS), Inv ds S → WS (forKL i ds0 L tg (evSs cl L nw b) ds S) Q := by
    intro ds
    induction ds with
    | nil =>
      intro S k
      unfold forKL
      rw [if_pos (ck _ _ k)]
      exact done S k
    | cons d ds ih =>
      intro S k
      obtain ⟨S1, e, w⟩ := step d ds S k
      unfold forKL
      rw [if_pos (ck _ _ k), e]; dsimp only
      generalize evSs cl L nw b S1 = q at w
      cases q with
      | nx S2 => exact ih S2 w
      | ct S2 => exact ih S2 w
      | bk S2 => exact w
      | rt v S2 => exact w
      | ex k S2 => exact w
      | no => exact w
  show WS (sForK L _ tg _ S) Q
  unfold sForK
  rw [ws_toO]
  refine sat_mono h fun p S1 ⟨e, k⟩ => ?_
  have e2 : lentI S1 L p.1 = some (i, ds0) := by
    rw [e]
    unfold lentI
    dsimp only
    rw [if_pos hl, own _ _ k]
  rw [e2]; exact key _ _ k
/-- while, by an invariant that counts down -/
theorem s_whl {t : Tt} {b : Sms} (Inv : Nat → FS → Prop) (m : Nat) (hm : m < nw) (h0 : Inv m S)
    (step : ∀ m S, Inv m S → Sat (evT cl L t S) fun k S1 => if k = true then WS (evSs cl L nw b S1) ⟨fun S2 => ∃ m', m' < m ∧ Inv m' S2, Q.nx, fun S2 => ∃ m', m' < m ∧ Inv m' S2, Q.rt⟩ else Q.nx S1) : WS (evS cl L nw (.whl t b) S) Q := by
  have key : ∀ (f m : Nat) (S : FS), m < f → Inv m S → WS (sWhile (evT cl L t) (evSs cl L nw b) f S) Q := by
    intro f
    induction f with
    | zero => intro m S h; omega
    | succ f ih =>
      intro m S hf k
      have w := step m S k
      show WS (R.toO _ _) Q
      rw [ws_toO]
      refine sat_mono w fun k S1 w => ?_
      cases k with
      | false => exact w
      | true =>
        have w : WS (evSs cl L nw b S1) _ := w
        rw [if_pos rfl]
        generalize evSs cl L nw b S1 = q at w
        cases q with
        | nx S2 => obtain ⟨m', h1, h2⟩ := w; exact ih m' S2 (by omega) h2
        | ct S2 => obtain ⟨m', h1, h2⟩ := w; exact ih m' S2 (by omega) h2
        | bk S2 => exact w
        | rt v S2 => exact w
        | ex k S2 => exact w
        | no => exact w
  exact key nw m S hm h0
end
end FL

set_option maxRecDepth 100000
set_option maxHeartbeats 4000000
/-! What is walked; list comprehensions; repetition. -/
namespace FL
open PySem PySem.Spec PyProof.Rows L2

theorem fs_ext : ∀ {a b : FS}, a.length = b.length → (∀ i, gt a i = gt b i) → a = b
  | [], [], _, _ => rfl
  | [], _ :: _, h, _ => by cases h
  | _ :: _, [], h, _ => by cases h
  | x :: a, y :: b, h, k => by
    have e : x = y := k 0
    rw [e, fs_ext (a := a) (b := b) (by simpa using h) fun i => k (i + 1)]
theorem rest_len (S0 S : FS) : ∀ own : List Nat, (restS S0 S own).length = S.length
  | [] => rfl
  | v :: vs => by simp only [restS, st_len, rest_len S0 S vs]
theorem rest_wipe (S : FS) (own : List Nat) : restS S (wipeS S own) own = S := by
  refine fs_ext (by rw [rest_len, wipe_len]) fun i => ?_
  rw [restS_gt _ _ _ _ (by rw [wipe_len])]
  by_cases h : i ∈ own
  · rw [if_pos h]
  · rw [if_neg h, wipeS_gt, if_neg h]
def itemsD : D → Option (List D)
  | .lst ds => some ds
  | .tup ds => some ds
  | .str z => some (charsD z)
  | _ => none
section
variable {cl : Nat → List Sv → CR} {L : List Bool} {nw : Nat} {S : FS} {P : Arg → FS → Prop} {PI : List Arg × List D × List D → FS → Prop} {Q : Po}
theorem i_ex {a : Ex} (h : Sat (evE cl L a S) fun x S1 => ∃ d items, pk S1 x = some d ∧ itemsD d = some items ∧ PI ([x], [d], items) S1) : Sat (evI cl L (.ex a) S) PI := by
  show Sat (iEx _ S) PI
  unfold iEx
  rw [sat_bind]
  refine sat_mono h fun x S1 ⟨d, items, e1, e2, k⟩ => ?_
  rw [e1]
  cases d <;> first | (cases e2; exact k) | (cases e2; done)
theorem i_r1 {es : Exs} (h : Sat (evA cl L es S) fun xs S1 => ∃ j, pks S1 xs = some [.int j] ∧ (-1000000000000000000 < j ∧ j < 1000000000000000000) ∧ PI (xs, [.int j], rngD 0 j.toNat) S1) : Sat (evI cl L (.r1 es) S) PI := by
  show Sat (iR1 _ S) PI
  unfold iR1
  rw [sat_bind]
  refine sat_mono h fun xs S1 ⟨j, e, hz, k⟩ => ?_
  rw [e]; dsimp only; rw [if_pos (by rw [rgB_val]; exact hz)]; exact k
theorem i_r2 {es : Exs} (h : Sat (evA cl L es S) fun xs S1 => ∃ i j, pks S1 xs = some [.int i, .int j] ∧ ((-1000000000000000000 < j ∧ j < 1000000000000000000) ∧ (-1000000000000000000 < i ∧ i < 1000000000000000000)) ∧ PI (xs, [.int i, .int j], rngD i (j - i).toNat) S1) : Sat (evI cl L (.r2 es) S) PI := by
  show Sat (iR2 _ S) PI
  unfold iR2
  rw [sat_bind]
  refine sat_mono h fun xs S1 ⟨i, j, e, hz, k⟩ => ?_
  rw [e]; dsimp only; rw [if_pos (by rw [rgB_val]; exact hz)]; exact k
theorem i_enu {es : Exs} (h : Sat (evA cl L es S) fun xs S1 => ∃ ds, pks S1 xs = some [.lst ds] ∧ PI (xs, [.lst ds], enumD 0 ds) S1) : Sat (evI cl L (.enu es) S) PI := by
  show Sat (iEnu _ S) PI
  unfold iEnu
  rw [sat_bind]
  refine sat_mono h fun xs S1 ⟨ds, e, k⟩ => ?_
  rw [e]; exact k
theorem i_zp {es : Exs} (h : Sat (evA cl L es S) fun xs S1 => ∃ ds es, (pks S1 xs = some [.lst ds, .lst es] ∧ PI (xs, [.lst ds, .lst es], zipD ds es) S1) ∨ (pks S1 xs = some [.tup ds, .tup es] ∧ PI (xs, [.tup ds, .tup es], zipD ds es) S1)) : Sat (evI cl L (.zp es) S) PI := by
  show Sat (iZp _ S) PI
  unfold iZp
  rw [sat_bind]
  refine sat_mono h fun xs S1 ⟨ds, es, k⟩ => ?_
  rcases k with ⟨e, k⟩ | ⟨e, k⟩
  · rw [e]; exact k
  · rw [e]; exact k
theorem i_zm {es : Exs} (h : Sat (evA cl L es S) fun xs S1 => ∃ ds es, pks S1 xs = some [.tup ds, .lst es] ∧ PI (xs, [.tup ds, .lst es], zipD ds es) S1) : Sat (evI cl L (.zm es) S) PI := by
  show Sat (iZm _ S) PI
  unfold iZm
  rw [sat_bind]
  refine sat_mono h fun xs S1 ⟨ds, es, e, k⟩ => ?_
  rw [e]; exact k
theorem c_nil {PT : Bool → FS → Prop} (h : PT true S) : Sat (evC cl L .nil S) PT := h
theorem c_one {t : Tt} {PT : Bool → FS → Prop} (h : Sat (evT cl L t S) PT) : Sat (evC cl L (.cons t .nil) S) PT := h
/-- a comprehension that leaves the slots as they are: F d is what the item d gives (one value or none) -/
theorem e_lc {tg : Tg} {it : Itx} {cd : Tts} {elt : Ex} {own : List Nat} (F : D → List D) (h : Sat (evI cl L it S) fun p S1 => ownFree S1 L own = true ∧ chkR (wipeS S1 own) (p.1.map (norm S1)) p.2.1 = true ∧ p.2.2.length ≤ lineN ∧
      (∀ d ∈ p.2.2, ∃ S2, asg L tg d (wipeS S1 own) = some S2 ∧ Sat (evC cl L cd S2) fun b S3 => if b = true then Sat (evE cl L elt S3) fun x S4 => ∃ e S5, tk S4 x = some (e, S5) ∧ ownFree S5 L own = true ∧ wipeS S5 own = wipeS S1 own ∧ F d = [e]
        else ownFree S3 L own = true ∧ wipeS S3 own = wipeS S1 own ∧ F d = []) ∧ P (.tmp (.own (p.2.2.flatMap F))) S1) : Sat (evE cl L (.lc tg it cd elt own) S) P := by
  show Sat (rLc L _ tg _ _ own S) P
  unfold rLc
  rw [sat_bind]
  refine sat_mono h fun p S1 ⟨ho, hc, hz, hs, k⟩ => ?_
  rw [if_pos ho, sat_bind]
  have key : ∀ (items acc : List D), acc.length + items.length ≤ lineN → (∀ d ∈ items, d ∈ p.2.2) → lcL L (p.1.map (norm S1)) p.2.1 tg (evC cl L cd) (evE cl L elt) own items acc (wipeS S1 own) = .ok (acc ++ items.flatMap F) (wipeS S1 own) := by
    intro items
    induction items with
    | nil => intro acc _ _; unfold lcL; rw [if_pos hc]; simp
    | cons d items ih =>
      intro acc hl hm
      obtain ⟨S2, e2, w⟩ := hs d (hm d List.mem_cons_self)
      have hm' : ∀ e ∈ items, e ∈ p.2.2 := fun e he => hm e (List.mem_cons_of_mem _ he)
      rw [List.length_cons] at hl
      unfold lcL
      rw [if_pos hc, e2]; dsimp only
      generalize evC cl L cd S2 = q at w
      cases q with
      | ex k S3 => exact w.elim
      | no => exact w.elim
      | ok b S3 =>
        cases b with
        | false =>
          obtain ⟨g1, g2, g3⟩ := (show ownFree S3 L own = true ∧ wipeS S3 own = wipeS S1 own ∧ F d = [] from w)
          dsimp only
          rw [if_pos g1, g2, ih acc (by omega) hm', List.flatMap_cons, g3, List.nil_append]
        | true =>
          have w : Sat (evE cl L elt S3) _ := w
          dsimp only
          generalize evE cl L elt S3 = q at w
          cases q with
          | ex k S3 => exact w.elim
          | no => exact w.elim
          | ok x S4 =>
            obtain ⟨e, S5, g1, g2, g3, g4⟩ := w
            dsimp only
            rw [g1]; dsimp only
            rw [if_pos ⟨by omega, g2⟩, g3, ih (acc ++ [e]) (by simp; omega) hm', List.flatMap_cons, g4, List.append_assoc]
  rw [key p.2.2 [] (by simpa using hz) fun d h => h, sat_ok, sat_ok, rest_wipe]
  exact k
theorem e_rep {a b : Ex} (h : Sat (evE cl L a S) fun x S1 => Sat (evE cl L b S1) fun y S2 => ∃ ds : List D, ∃ j, x = .tmp (.own ds) ∧ pk S2 y = some (.int j) ∧ (j < 1000000 ∧ -1000000 < j ∧ ds.length * j.toNat ≤ lineN) ∧ P (.tmp (.own (List.replicate j.toNat ds).flatten)) S2) : Sat (evE cl L (.rep a b) S) P := by
  show Sat (rRep _ _ S) P
  unfold rRep
  simp only [sat_bind]
  refine sat_mono h fun x S1 h => sat_mono h fun y S2 ⟨ds, j, e1, e2, hz, k⟩ => ?_
  subst e1
  rw [e2]; dsimp only; rw [if_pos hz]; exact k
end
end FL

set_option maxRecDepth 100000
set_option maxHeartbeats 4000000
/-! Facts of trees. -/
namespace FL
open PySem PySem.Spec PyProof.Rows L2

mutual
def D.ok : D → Bool
  | .str x => PyData.strOk x
  | .tup ds => D.oks ds
  | .lst ds => D.oks ds
  | .dic _ => false
  | .exc _ => false
  | _ => true
def D.oks : List D → Bool
  | [] => true
  | d :: ds => d.ok && D.oks ds
end
mutual
def D.dep : D → Nat
  | .tup ds => D.deps ds + 1
  | .lst ds => D.deps ds + 1
  | .dic kvs => (toPy (.dic kvs)).depth
  | .exc k => (toPy (.exc k)).depth
  | _ => 0
def D.deps : List D → Nat
  | [] => 0
  | d :: ds => max d.dep (D.deps ds)
end
mutual
theorem lay_of : ∀ {d : D}, d.ok = true → (toPy d).canLay0 = true
  | .non, _ => rfl
  | .bl _, _ => rfl
  | .int _, _ => rfl
  | .str _, h => by simpa [toPy, PyData.canLay0, D.ok] using h
  | .tup ds, h => by
    simp only [toPy, PyData.canLay0]
    exact lays_of (by simpa [D.ok] using h)
  | .lst ds, h => by
    simp only [toPy, PyData.canLay0]
    exact lays_of (by simpa [D.ok] using h)
  | .dic _, h => by simp [D.ok] at h
  | .exc _, h => by simp [D.ok] at h
theorem lays_of : ∀ {ds : List D}, D.oks ds = true → PyData.canLayAll0 (toPys ds) = true
  | [], _ => rfl
  | d :: ds, h => by
    simp only [D.oks, Bool.and_eq_true] at h
    simp only [toPys, PyData.canLayAll0, lay_of h.1, lays_of h.2, Bool.and_self]
end
mutual
theorem dep_py : ∀ (d : D), (toPy d).depth = d.dep
  | .non => rfl
  | .bl _ => rfl
  | .int _ => rfl
  | .str _ => rfl
  | .tup ds => by simp only [toPy, PyData.depth, D.dep, deps_py ds]
  | .lst ds => by simp only [toPy, PyData.depth, D.dep, deps_py ds]
  | .dic kvs => by simp only [D.dep]
  | .exc k => by simp only [D.dep]
theorem deps_py : ∀ (ds : List D), PyData.depthAll (toPys ds) = D.deps ds
  | [] => rfl
  | d :: ds => by simp only [toPys, PyData.depthAll, D.deps, dep_py d, deps_py ds]
end
theorem shaped_of {d : D} (h : d.ok = true) (k : d.dep ≤ 64) : SeqAt.shaped (toPy d) = true := by
  unfold SeqAt.shaped
  rw [lay_of h, dep_py, decide_eq_true k]; rfl
theorem eqD_of {d e : D} (h : d.ok = true) (k : d.dep ≤ 64) (h' : e.ok = true) (k' : e.dep ≤ 64) : eqD d e = some (PyData.eqv (toPy d) (toPy e)) := by
  unfold eqD
  rw [if_pos ⟨shaped_of h k, shaped_of h' k'⟩]
theorem eqD_self {d : D} (h : d.ok = true) (k : d.dep ≤ 64) : eqD d d = some true := by
  rw [eqD_of h k h k, SeqAt.eqv_refl _ (lay_of h)]
theorem ne_self {d : D} (h : d.ok = true) (k : d.dep ≤ 64) : cmpD .ne d d = some false := by
  show (eqD d d).map (!·) = _
  rw [eqD_self h k]; rfl
theorem eq_str {a b : Str} (ha : PyData.strOk a = true) (hb : PyData.strOk b = true) : cmpD .eq (.str a) (.str b) = some (a == b) := by
  show eqD _ _ = _
  rw [eqD_of (by simpa [D.ok] using ha) (Nat.zero_le _) (by simpa [D.ok] using hb) (Nat.zero_le _)]
  simp only [toPy, PyData.eqv]
theorem ne_str {a b : Str} (ha : PyData.strOk a = true) (hb : PyData.strOk b = true) : cmpD .ne (.str a) (.str b) = some (!(a == b)) := by
  show (eqD _ _).map (!·) = _
  have := eq_str ha hb
  rw [show cmpD .eq (.str a) (.str b) = eqD (.str a) (.str b) from rfl] at this
  rw [this]; rfl
theorem eq_int {a b : Int} : cmpD .eq (.int a) (.int b) = some (decide (a = b)) := by
  show eqD _ _ = _
  rw [eqD_of rfl (Nat.zero_le _) rfl (Nat.zero_le _)]
  simp only [toPy, PyData.eqv]
  by_cases h : a = b
  · subst h; simp
  · simp [h]
theorem ne_int {a b : Int} : cmpD .ne (.int a) (.int b) = some (!decide (a = b)) := by
  have := eq_int (a := a) (b := b)
  rw [show cmpD .eq (.int a) (.int b) = eqD (.int a) (.int b) by simp only [cmpD]] at this
  rw [show cmpD .ne (.int a) (.int b) = (eqD (.int a) (.int b)).map (!·) by simp only [cmpD], this]; rfl
theorem ne_nil {ds : List D} (h : D.oks ds = true) (k : D.deps ds ≤ 63) : cmpD .ne (.lst ds) (.lst []) = some (!ds.isEmpty) := by
  show (eqD _ _).map (!·) = _
  rw [eqD_of (by simpa [D.ok] using h) (by simp only [D.dep]; omega) rfl (by decide)]
  cases ds <;> simp [toPy, toPys, PyData.eqv, PyData.eqvAll]
theorem eq_nil {ds : List D} (h : D.oks ds = true) (k : D.deps ds ≤ 63) : cmpD .eq (.lst ds) (.lst []) = some ds.isEmpty := by
  show eqD _ _ = _
  rw [eqD_of (by simpa [D.ok] using h) (by simp only [D.dep]; omega) rfl (by decide)]
  cases ds <;> simp [toPy, toPys, PyData.eqv, PyData.eqvAll]
theorem oks_all {ds : List D} : D.oks ds = true ↔ ∀ d ∈ ds, d.ok = true := by
  induction ds with
  | nil => simp [D.oks]
  | cons d ds ih => simp [D.oks, ih]
theorem deps_le {ds : List D} {n : Nat} : D.deps ds ≤ n ↔ ∀ d ∈ ds, d.dep ≤ n := by
  induction ds with
  | nil => simp [D.deps]
  | cons d ds ih => simp only [D.deps, List.mem_cons, forall_eq_or_imp, ← ih]; omega
theorem in_strs {w : Str} {ws : List Str} (hw : PyData.strOk w = true) (h : ∀ v ∈ ws, PyData.strOk v = true) : inD (.str w) (.lst (ws.map D.str)) = some (decide (w ∈ ws)) := by
  have e1 : SeqAt.shaped (toPy (.str w)) = true := shaped_of (by simpa [D.ok] using hw) (Nat.zero_le _)
  have e2 : SeqAt.shaped (.list (toPys (ws.map D.str))) = true := by
    have : (D.lst (ws.map D.str)).ok = true := by
      simp only [D.ok]
      refine oks_all.mpr fun d hd => ?_
      obtain ⟨v, hv, rfl⟩ := List.mem_map.mp hd
      simpa [D.ok] using h v hv
    have k : (D.lst (ws.map D.str)).dep ≤ 64 := by
      simp only [D.dep]
      have : D.deps (ws.map D.str) ≤ 0 := deps_le.mpr fun d hd => by
        obtain ⟨v, hv, rfl⟩ := List.mem_map.mp hd
        exact Nat.le_refl _
      omega
    have := shaped_of this k
    simpa [toPy] using this
  unfold inD
  dsimp only
  rw [if_pos ⟨e1, e2⟩]
  congr 1
  clear e1 e2 h
  induction ws with
  | nil => simp [toPys]
  | cons v ws ih =>
    simp only [List.map_cons, toPys, toPy, List.any_cons, PyData.eqv, List.mem_cons, ih]
    by_cases e : v = w
    · subst e; simp
    · have e' : (v == w) = false := by simpa using e
      rw [e']
      have : w ≠ v := fun z => e z.symm
      simpa [this, toPy] using ih
theorem pop_at {ds : List D} {r : Int} (h0 : 0 ≤ r) (h1 : r < ds.length) (hb : ds.length < 1000000000) : ∃ d, ds[r.toNat]? = some d ∧ mthD .pop ds [.int r] = some (d, ds.eraseIdx r.toNat) := by
  have hr : r.toNat < ds.length := by omega
  refine ⟨ds[r.toNat], List.getElem?_eq_getElem hr, ?_⟩
  have e : seqIndex? r ds.length = some r.toNat := by
    unfold seqIndex?
    simp only [show ¬ (r < 0) from by omega, if_false]
    rw [if_pos (by simp; omega)]
  unfold mthD
  dsimp only
  rw [if_pos (by omega), e]
  simp only [Option.bind_some]
  rw [List.getElem?_eq_getElem hr]; rfl
theorem notin_strs {w : Str} {ws : List Str} (hw : PyData.strOk w = true) (h : ∀ v ∈ ws, PyData.strOk v = true) : cmpD .notin (.str w) (.lst (ws.map D.str)) = some (!decide (w ∈ ws)) := by
  show (inD _ _).map (!·) = _
  rw [in_strs hw h]; rfl
theorem append_at {ds : List D} {d : D} (h : ds.length < lineN) : mthD .append ds [d] = some (.non, ds ++ [d]) := by
  unfold mthD
  dsimp only
  rw [if_pos h]
theorem cut_to {α : Type} {xs : List α} {a : Int} (h0 : 0 ≤ a) : cutL xs none (some a) = xs.take a.toNat := by
  unfold cutL HT.sIx
  simp
  rw [if_neg (by omega)]
  omega
theorem cut_from {α : Type} {xs : List α} {a : Int} (h0 : 0 ≤ a) : cutL xs (some a) none = xs.drop a.toNat := by
  unfold cutL HT.sIx
  simp only [if_neg (show ¬ a < 0 by omega)]
  rw [List.take_of_length_le (by simp)]
  by_cases h : a.toNat ≤ xs.length
  · rw [Nat.min_eq_left h]
  · rw [Nat.min_eq_right (by omega), List.drop_length, List.drop_eq_nil_of_le (by omega)]
theorem ix_lst {ds : List D} {r : Int} (h0 : 0 ≤ r) (h1 : r < ds.length) : ∃ d, ds[r.toNat]? = some d ∧ ixD (.lst ds) (.int r) = some d ∧ d ∈ ds := by
  have hr : r.toNat < ds.length := by omega
  refine ⟨ds[r.toNat], List.getElem?_eq_getElem hr, ?_, List.getElem_mem hr⟩
  show L2.atI ds r = _
  unfold L2.atI L2.ixN
  rw [if_pos h0, if_pos h1]
  exact List.getElem?_eq_getElem hr
theorem bits_le {x : Int} {k : Nat} (h : x.natAbs < 2 ^ k) : Builtin.Int.intBits x ≤ k := by
  unfold Builtin.Int.intBits
  split
  · exact Nat.zero_le _
  · rename_i hx
    have hx : x.natAbs ≠ 0 := by simpa using hx
    have := (Nat.log2_lt hx).mpr h
    omega
theorem log_lt {x : Nat} {k : Nat} (h : x < 2 ^ k) (hk : 0 < k) : x.log2 < k := by
  by_cases hx : x = 0
  · subst hx; simpa using hk
  · exact (Nat.log2_lt hx).mpr h
theorem if_dec {c : Prop} [Decidable c] {A B : Prop} (h1 : c → A) (h2 : ¬ c → B) : if decide c = true then A else B := by
  by_cases h : c
  · rw [if_pos (by simpa using h)]; exact h1 h
  · rw [if_neg (by simpa using h)]; exact h2 h
theorem if_notdec {c : Prop} [Decidable c] {A B : Prop} (h1 : ¬ c → A) (h2 : c → B) : if (!decide c) = true then A else B := by
  by_cases h : c
  · rw [if_neg (by simp [h])]; exact h2 h
  · rw [if_pos (by simp [h])]; exact h1 h
theorem if_t {A B : Prop} (h : A) : if true = true then A else B := h
theorem if_f {A B : Prop} (h : B) : if false = true then A else B := h
end FL

set_option maxRecDepth 100000
set_option maxHeartbeats 4000000
/-! What a tree's shown text is: of good code points, and how long at most. -/
namespace FL
open PySem PySem.Spec PyProof.Rows L2

theorem sok_iff {x : Str} : PyData.strOk x = true ↔ ∀ c ∈ x.cps.toList, c < 1114112 := by
  unfold PyData.strOk
  rw [Array.all_eq_true']
  simp
theorem strLen_ofString (s : String) : (Str.ofString s).length = s.length := by
  rw [Str.ofString_eq_toList]
  show (List.map Char.toNat s.toList).toArray.size = _
  simp only [List.size_toArray, List.length_map]
  rfl
theorem sok_app {a b : Str} (ha : PyData.strOk a = true) (hb : PyData.strOk b = true) : PyData.strOk (a ++ b) = true := by
  rw [sok_iff] at *
  intro c hc
  have e : (a ++ b).cps.toList = a.cps.toList ++ b.cps.toList := by
    show (a.cps ++ b.cps).toList = _
    simp
  rw [e] at hc
  rcases List.mem_append.mp hc with h | h
  · exact ha c h
  · exact hb c h
theorem sok_of (s : String) : PyData.strOk (Str.ofString s) = true := by
  rw [Str.ofString_eq_toList, sok_iff]
  intro c hc
  simp only [List.mem_map] at hc
  obtain ⟨k, _, rfl⟩ := hc
  have := k.valid
  unfold UInt32.isValidChar Nat.isValidChar at this
  show k.val.toNat < 1114112
  omega
theorem rc_ok {q c : Nat} (hq : q < 1114112) (hc : c < 1114112) : ∀ d ∈ Builtin.Str.reprChar q c, d < 1114112 := by
  have hx : ∀ n : Nat, ∀ d ∈ List.replicate (n - ((Nat.toDigits 16 c).map Char.toNat).length) 48 ++ (Nat.toDigits 16 c).map Char.toNat, d < 1114112 := fun n d hd => by
    rcases List.mem_append.mp hd with h | h
    · rw [List.eq_of_mem_replicate h]; decide
    · obtain ⟨k, _, rfl⟩ := List.mem_map.mp h
      have := k.valid
      unfold UInt32.isValidChar Nat.isValidChar at this
      show k.val.toNat < 1114112
      omega
  unfold Builtin.Str.reprChar
  dsimp only
  repeat' split
  all_goals intro d hd
  all_goals first
    | (rcases List.mem_append.mp hd with h | h
       · simp at h; omega
       · exact hx _ d h)
    | (simp at hd; omega)
theorem rt_ok {x : Str} (h : PyData.strOk x = true) : PyData.strOk (reprText x) = true := by
  rw [sok_iff] at *
  have hq : reprQuote x < 1114112 := by unfold reprQuote; split <;> decide
  have key : ∀ (l : List Nat) (acc : Array Nat), (∀ c ∈ l, c < 1114112) → (∀ c ∈ acc.toList, c < 1114112) → ∀ c ∈ (l.foldl (fun out c => out ++ (Builtin.Str.reprChar (reprQuote x) c).toArray) acc).toList, c < 1114112 := by
    intro l
    induction l with
    | nil => exact fun acc _ h => h
    | cons d l ih =>
      intro acc h1 h2
      rw [List.foldl_cons]
      refine ih _ (fun c hc => h1 c (List.mem_cons_of_mem _ hc)) fun c hc => ?_
      simp only [Array.toList_append, List.mem_append] at hc
      rcases hc with hc | hc
      · exact h2 c hc
      · exact rc_ok hq (h1 d List.mem_cons_self) c (by simpa using hc)
  unfold reprText
  intro c hc
  simp only [Array.toList_push, List.mem_append, List.mem_singleton] at hc
  rw [← Array.foldl_toList] at hc
  rcases hc with hc | hc
  · exact key _ _ h (fun c hc => by simp at hc; omega) c hc
  · subst hc; exact hq
theorem join_ok {s : Str} (hs : PyData.strOk s = true) : ∀ {ts : List Str}, (∀ t ∈ ts, PyData.strOk t = true) → PyData.strOk (Str.join s ts) = true
  | [], _ => by show PyData.strOk Str.empty = true; decide +kernel
  | [x], h => h x (by simp)
  | x :: y :: r, h => sok_app (sok_app (h x (by simp)) hs) (join_ok hs (ts := y :: r) fun t ht => h t (List.mem_cons_of_mem _ ht))
theorem from_ok : ∀ {ts : List Str} {k : Nat} {a : Str}, PyData.strOk a = true → (∀ t ∈ ts, PyData.strOk t = true) → PyData.strOk (textFrom k a ts) = true
  | [], _, _, ha, _ => ha
  | t :: ts, k, a, ha, h => from_ok (ts := ts) (sok_app (sok_app ha (sok_of _)) (h t (by simp))) fun t ht => h t (List.mem_cons_of_mem _ ht)
mutual
theorem shown_ok : ∀ {d : D}, d.ok = true → PyData.strOk (toPy d).shown = true
  | .non, _ => by decide +kernel
  | .bl b, _ => by cases b <;> decide +kernel
  | .int i, _ => by simp only [toPy, PyData.shown]; exact sok_of _
  | .str x, h => by simp only [toPy, PyData.shown]; exact rt_ok (by simpa [D.ok] using h)
  | .tup ds, h => by
    simp only [toPy, PyData.shown]
    unfold tupleText
    exact sok_app (sok_app (sok_of _) (join_ok (sok_of _) (showns_ok (by simpa [D.ok] using h)))) (sok_of _)
  | .lst ds, h => by
    simp only [toPy, PyData.shown]
    unfold listText
    exact sok_app (from_ok (sok_of _) (showns_ok (by simpa [D.ok] using h))) (sok_of _)
  | .dic _, h => by simp [D.ok] at h
  | .exc _, h => by simp [D.ok] at h
theorem showns_ok : ∀ {ds : List D}, D.oks ds = true → ∀ t ∈ PyData.shownAll (toPys ds), PyData.strOk t = true
  | [], _ => fun t h => by simp [toPys, PyData.shownAll] at h
  | d :: ds, h => fun t ht => by
    simp only [D.oks, Bool.and_eq_true] at h
    simp only [toPys, PyData.shownAll, List.mem_cons] at ht
    rcases ht with e | ht
    · rw [e]; exact shown_ok h.1
    · exact showns_ok h.2 t ht
end
/-! how long -/
mutual
def D.wt : D → Nat
  | .non => 4
  | .bl _ => 5
  | .int _ => 1921
  | .str x => 10 * x.length + 2
  | .tup ds => D.wts ds + 3
  | .lst ds => D.wts ds + 3
  | .dic _ => 0
  | .exc _ => 0
def D.wts : List D → Nat
  | [] => 0
  | d :: ds => d.wt + 2 + D.wts ds
end
/-! ints small enough to be shown -/
mutual
def D.sml : D → Bool
  | .int i => decide (i.natAbs.log2 < 1920)
  | .tup ds => D.smls ds
  | .lst ds => D.smls ds
  | .dic _ => false
  | .exc _ => false
  | _ => true
def D.smls : List D → Bool
  | [] => true
  | d :: ds => d.sml && D.smls ds
end
mutual
theorem sml_of : ∀ {d : D}, d.sml = true → (toPy d).showable = true
  | .non, _ => rfl
  | .bl _, _ => rfl
  | .int _, h => by simpa [toPy, PyData.showable, D.sml] using h
  | .str _, _ => rfl
  | .tup ds, h => by simp only [toPy, PyData.showable]; exact smls_of (by simpa [D.sml] using h)
  | .lst ds, h => by simp only [toPy, PyData.showable]; exact smls_of (by simpa [D.sml] using h)
  | .dic _, h => by simp [D.sml] at h
  | .exc _, h => by simp [D.sml] at h
theorem smls_of : ∀ {ds : List D}, D.smls ds = true → PyData.showableAll (toPys ds) = true
  | [], _ => rfl
  | d :: ds, h => by
    simp only [D.smls, Bool.and_eq_true] at h
    simp only [toPys, PyData.showableAll, sml_of h.1, smls_of h.2, Bool.and_self]
end
theorem smls_all {ds : List D} : D.smls ds = true ↔ ∀ d ∈ ds, d.sml = true := by
  induction ds with
  | nil => simp [D.smls]
  | cons d ds ih => simp [D.smls, ih]
theorem join_len (ts : List Str) : (Str.join ", " ts).length ≤ piled ts := by
  by_cases h : ts = []
  · subst h; exact Nat.le_refl 0
  · have := join_length_add ts h; omega
theorem from_len : ∀ (ts : List Str), (textFrom 0 "[" ts).length ≤ piled ts + 1
  | [] => by decide
  | t :: r => by
    show (textFrom 1 (("[" : Str) ++ (if (0 : Nat) > 0 then ", " else "" : String) ++ t) r).length ≤ _
    rw [textFrom_length_pos r 1 _ (Nat.succ_pos 0), strLen_append, strLen_append, piled_cons]
    have : (("[" : String) : Str).length = 1 := rfl
    have e : (((if (0 : Nat) > 0 then ", " else "" : String) : Str)).length = 0 := rfl
    omega
mutual
theorem wt_of : ∀ {d : D}, d.sml = true → d.ok = true → (toPy d).shown.length ≤ d.wt
  | .non, _, _ => by decide +kernel
  | .bl b, _, _ => by cases b <;> decide +kernel
  | .int i, h, _ => by
    have h : i.natAbs.log2 < 1920 := by simpa [D.sml] using h
    simp only [toPy, PyData.shown, D.wt]
    have := int_text_length_le (by decide) h
    rw [show ((toString i : String) : Str).length = (toString i : String).length from strLen_ofString _]
    exact this
  | .str x, _, h => by
    simp only [toPy, PyData.shown, D.wt]
    refine StrLaws.reprText_len x fun c hc => ?_
    have h : PyData.strOk x = true := by simpa [D.ok] using h
    have := sok_iff.mp h c hc
    omega
  | .tup ds, h, k => by
    simp only [toPy, PyData.shown, D.wt]
    unfold tupleText
    rw [strLen_append, strLen_append]
    have := wts_of (ds := ds) (by simpa [D.sml] using h) (by simpa [D.ok] using k)
    have e := join_len (PyData.shownAll (toPys ds))
    have e1 : ((("(" : String) : Str)).length = 1 := rfl
    have e3 : (((if (PyData.shownAll (toPys ds)).length == 1 then ",)" else ")" : String) : Str)).length ≤ 2 := by split <;> decide
    omega
  | .lst ds, h, k => by
    simp only [toPy, PyData.shown, D.wt]
    unfold listText
    rw [strLen_append]
    have := wts_of (ds := ds) (by simpa [D.sml] using h) (by simpa [D.ok] using k)
    have e := from_len (PyData.shownAll (toPys ds))
    have e3 : (("]" : String) : Str).length = 1 := rfl
    omega
  | .dic _, h, _ => by simp [D.sml] at h
  | .exc _, h, _ => by simp [D.sml] at h
theorem wts_of : ∀ {ds : List D}, D.smls ds = true → D.oks ds = true → piled (PyData.shownAll (toPys ds)) ≤ D.wts ds
  | [], _, _ => Nat.le_refl 0
  | d :: ds, h, k => by
    simp only [D.smls, D.oks, Bool.and_eq_true] at h k
    simp only [toPys, PyData.shownAll, D.wts, piled_cons]
    have := wt_of h.1 k.1
    have := wts_of h.2 k.2
    omega
end
/-- a slot's own list, walked, stands -/
theorem chk_own {S : FS} {i : Nat} {es : List D} (h : gt S i = some (.own es)) : chkR S [.ref i] [.lst es] = true := by
  unfold chkR
  rw [h]
  dsimp only
  rw [eqT_self]; rfl
theorem nd_of_ok {d : D} (h : d.ok = true) : nd d = true := nd_of_lay d (lay_of h)
/-- repr -/
theorem repr_at {d : D} (h : d.sml = true) (k : d.ok = true) (hd : d.dep ≤ 64) (hw : d.wt ≤ 16777216) : bltD .repr [d] = some (.val (.str (toPy d).shown)) := by
  have e : bltD .repr [d] = if (toPy d).showable = true ∧ nd d = true ∧ (toPy d).depth ≤ 64 ∧ (toPy d).shown.length ≤ lineN then some (.val (.str (toPy d).shown)) else none := by cases d <;> rfl
  rw [e, if_pos ⟨sml_of h, nd_of_ok k, by rw [dep_py]; exact hd, line_le (Nat.le_trans (wt_of h k) hw)⟩]
theorem ne_shown {d : D} (k : d.ok = true) : cmpD .ne (.str (toPy d).shown) (.str (toPy d).shown) = some false := by
  rw [ne_str (shown_ok k) (shown_ok k)]
  simp
end FL

set_option maxRecDepth 100000
set_option maxHeartbeats 4000000
/-! Bodies in two; lists that are put behind lists. -/
namespace FL
open PySem PySem.Spec PyProof.Rows L2
def takeS : Nat → Sms → Sms
  | 0, _ => .nil
  | _, .nil => .nil
  | n + 1, .cons s r => .cons s (takeS n r)
def dropS : Nat → Sms → Sms
  | 0, b => b
  | _, .nil => .nil
  | n + 1, .cons _ r => dropS n r
section
variable {cl : Nat → List Sv → CR} {L : List Bool} {nw : Nat} {S : FS} {P : Arg → FS → Prop} {Q : Po}
theorem ws_split : ∀ (k : Nat) {b t : Sms} {S : FS}, takeS k b = t → WS (evSs cl L nw t S) ⟨fun S1 => WS (evSs cl L nw (dropS k b) S1) Q, Q.bk, Q.ct, Q.rt⟩ → WS (evSs cl L nw b S) Q
  | 0, b, t, S, e, h => by
    subst e
    have e1 : takeS 0 b = .nil := by cases b <;> rfl
    have e2 : dropS 0 b = b := by cases b <;> rfl
    rw [e1] at h
    have h : WS (evSs cl L nw (dropS 0 b) S) Q := h
    rw [e2] at h
    exact h
  | n + 1, .nil, t, S, e, h => by subst e; exact h
  | n + 1, .cons s r, t, S, e, h => by
    subst e
    have h : WS (evSs cl L nw (.cons s (takeS n r)) S) ⟨fun S1 => WS (evSs cl L nw (dropS n r) S1) Q, Q.bk, Q.ct, Q.rt⟩ := h
    refine s_cons ?_
    have h : WS (sSeq (evS cl L nw s) (evSs cl L nw (takeS n r)) S) _ := h
    unfold sSeq at h
    rw [ws_bind] at h
    exact ws_mono h (fun S1 k => ws_split n rfl k) (fun _ k => k) (fun _ k => k) (fun _ _ k => k)
theorem e_ext {i : Nat} {a : Ex} (ho : isLst S i = true) (h : Sat (evE cl L a S) fun x S1 => ∃ es ds : List D, x = .tmp (.own es) ∧ gt S1 i = some (.own ds) ∧ ds.length + es.length ≤ lineN ∧ P (.tmp (.val .non)) (st S1 i (some (.own (ds ++ es))))) : Sat (evE cl L (.ext i a) S) P := by
  show Sat (rExt i _ S) P
  unfold rExt
  rw [if_pos ho, sat_bind]
  refine sat_mono h fun x S1 ⟨es, ds, e1, e2, hz, k⟩ => ?_
  subst e1
  dsimp only
  rw [e2]; dsimp only; rw [if_pos hz]; exact k
end
end FL

set_option maxRecDepth 100000
set_option maxHeartbeats 40000000
namespace Law
open PySem PySem.Spec PyProof.Rows L2 FL
def top (i : Nat) : Stmt := PySem.Challenge.pw_ziplanes_k68_errors_are_distinct.main.body.getD i (.Pass ⟨0, 0, 0, 0⟩)
def marksL : List Nat := [12, 2, 9, 6, 3, 4, 1, 8, 5, 7, 10, 11]
def hotTab : List (Nat × Sv) := (List.range 13).map fun k => (k, .own (.lst (marksL.map fun j => D.bl (decide (j = k)))))
def b_is_integer : Sms := (.cons (.ifs (.bo .Or (.cons (.not (.tru (.isi [.int] false (.sl 0)))) (.cons (.tru (.isi [.bool] false (.sl 0))) .nil)))
    (.cons (.ret (.cs (.bl false)))
    .nil)
    .nil)
    (.cons (.ret (.bo .And (.cons (.cmpV .le (.sl 1) (.sl 0)) (.cons (.bo .Or (.cons (.cmpV .isN (.sl 2) (.cs .non)) (.cons (.cmpV .le (.sl 0) (.sl 2)) .nil))) .nil))))
    .nil))
def d_is_integer : FD := { x := "is_integer", qual := "is_integer", ps := ["value", "least", "most"], N := ["value", "least", "most"], body := b_is_integer, forms := [⟨[], 3, [0, 1, 2]⟩] }
def b_check_number : Sms := (.cons (.ifs (.not (.tru (.cal 0 [] 3 [0, 1, 2] (.cons (.sl 0) (.cons (.sl 1) (.cons (.sl 2) .nil))) .nil)))
    (.cons (.rse "InvalidNumberError" 4)
    .nil)
    .nil)
    .nil)
def d_check_number : FD := { x := "check_number", qual := "check_number", ps := ["value", "least", "most"], N := ["value", "least", "most"], body := b_check_number, forms := [⟨[], 3, [0, 1, 2]⟩] }
def b_is_name : Sms := (.cons (.ifs (.bo .Or (.cons (.not (.tru (.isi [.str] false (.sl 0)))) (.cons (.not (.chn .le .le (.cs (.int 1)) (.blt .len (.cons (.sl 0) .nil)) (.gl "MOST_LETTERS" (.int 8)))) .nil)))
    (.cons (.ret (.cs (.bl false)))
    .nil)
    .nil)
    (.cons (.ret (.blt .all (.cons (.lc (.nm 1) (.ex (.sl 0)) .nil (.cmpV .isin (.sl 1) (.gl "LETTERS" (.str "abcdefghijklmnopqrstuvwxyz"))) [1]) .nil)))
    .nil))
def d_is_name : FD := { x := "is_name", qual := "is_name", ps := ["value"], N := ["value", "letter"], body := b_is_name, forms := [⟨[], 1, [0]⟩] }
def b_is_lane : Sms := (.cons (.ifs (.bo .Or (.cons (.not (.tru (.isi [.tup] false (.sl 0)))) (.cons (.cmp .ne (.blt .len (.cons (.sl 0) .nil)) (.cs (.int 4))) (.cons (.cmp .ne (.ix (.sl 0) (.cs (.int 0))) (.cs (.str "lane"))) (.cons (.not (.tru (.cal 2 [] 1 [0] (.cons (.ix (.sl 0) (.cs (.int 1))) .nil) .nil))) .nil)))))
    (.cons (.ret (.cs (.bl false)))
    .nil)
    .nil)
    (.cons (.ret (.bo .And (.cons (.cal 0 [] 3 [0, 1, 2] (.cons (.ix (.sl 0) (.cs (.int 2))) (.cons (.cs (.int 0)) (.cons (.cs .non) .nil))) .nil) (.cons (.cal 0 [] 3 [0, 1, 2] (.cons (.ix (.sl 0) (.cs (.int 3))) (.cons (.cs (.int 0)) (.cons (.cs .non) .nil))) .nil) .nil))))
    .nil))
def d_is_lane : FD := { x := "is_lane", qual := "is_lane", ps := ["value"], N := ["value"], body := b_is_lane, forms := [⟨[], 1, [0]⟩] }
def b_is_merge : Sms := (.cons (.ret (.bo .And (.cons (.isi [.tup] false (.sl 0)) (.cons (.cmpV .eq (.blt .len (.cons (.sl 0) .nil)) (.cs (.int 3))) (.cons (.isi [.str] false (.ix (.sl 0) (.cs (.int 0)))) (.cons (.cmpV .isin (.ix (.sl 0) (.cs (.int 0))) (.tup (.cons (.cs (.str "zip")) (.cons (.cs (.str "then")) .nil)))) .nil))))))
    .nil)
def d_is_merge : FD := { x := "is_merge", qual := "is_merge", ps := ["value"], N := ["value"], body := b_is_merge, forms := [⟨[], 1, [0]⟩] }
def b_is_plan : Sms := (.cons (.par true [1, 2, 3] (.cons (.lst (.cons (.sl 0) .nil)) (.cons (.lst .nil) (.cons (.cs (.int 0)) .nil))))
    (.cons (.whl (.cmp .ne (.sl 1) (.lst .nil))
    (.cons (.set 4 (.mth 1 .pop .nil))
    (.cons (.ifs (.tru (.cal 3 [] 1 [0] (.cons (.sl 4) .nil) .nil))
    (.cons (.ifs (.cmp .isin (.ix (.sl 4) (.cs (.int 1))) (.sl 2))
    (.cons (.ret (.cs (.bl false)))
    .nil)
    .nil)
    (.cons (.exp (.mth 2 .append (.cons (.ix (.sl 4) (.cs (.int 1))) .nil)))
    .nil))
    (.cons (.ifs (.bo .And (.cons (.tru (.cal 4 [] 1 [0] (.cons (.sl 4) .nil) .nil)) (.cons (.cmp .lt (.sl 3) (.bin .sub (.gl "MOST_LANES" (.int 40)) (.cs (.int 1)))) .nil)))
    (.cons (.aug 3 .add (.cs (.int 1)))
    (.cons (.exp (.mth 1 .append (.cons (.ix (.sl 4) (.cs (.int 1))) .nil)))
    (.cons (.exp (.mth 1 .append (.cons (.ix (.sl 4) (.cs (.int 2))) .nil)))
    .nil)))
    (.cons (.ret (.cs (.bl false)))
    .nil))
    .nil))
    .nil)))
    (.cons (.ret (.cs (.bl true)))
    .nil)))
def d_is_plan : FD := { x := "is_plan", qual := "is_plan", ps := ["value"], N := ["value", "waiting", "names", "merges", "part"], body := b_is_plan, forms := [⟨[], 1, [0]⟩] }
def b_check_plan : Sms := (.cons (.ifs (.not (.tru (.cal 5 [] 1 [0] (.cons (.sl 0) .nil) .nil)))
    (.cons (.rse "InvalidPlanError" 1)
    .nil)
    .nil)
    .nil)
def d_check_plan : FD := { x := "check_plan", qual := "check_plan", ps := ["plan"], N := ["plan"], body := b_check_plan, forms := [⟨[], 1, [0]⟩] }
def b_lanes_in : Sms := (.cons (.par true [1, 2] (.cons (.lst .nil) (.cons (.lst (.cons (.sl 0) .nil)) .nil)))
    (.cons (.whl (.cmp .ne (.sl 2) (.lst .nil))
    (.cons (.set 3 (.mth 2 .pop .nil))
    (.cons (.ifs (.cmp .eq (.ix (.sl 3) (.cs (.int 0))) (.cs (.str "lane")))
    (.cons (.exp (.mth 1 .append (.cons (.sl 3) .nil)))
    .nil)
    (.cons (.exp (.mth 2 .append (.cons (.ix (.sl 3) (.cs (.int 2))) .nil)))
    (.cons (.exp (.mth 2 .append (.cons (.ix (.sl 3) (.cs (.int 1))) .nil)))
    .nil)))
    .nil)))
    (.cons (.ret (.sl 1))
    .nil)))
def d_lanes_in : FD := { x := "lanes_in", qual := "lanes_in", ps := ["plan"], N := ["plan", "found", "waiting", "part"], body := b_lanes_in, forms := [⟨[], 1, [0]⟩] }
def b_size_in : Sms := (.cons (.ret (.blt .sum (.cons (.lc (.nm 1) (.ex (.cal 7 [] 1 [0] (.cons (.sl 0) .nil) .nil)) .nil (.ix (.sl 1) (.cs (.int 3))) [1]) .nil)))
    .nil)
def d_size_in : FD := { x := "size_in", qual := "size_in", ps := ["plan"], N := ["plan", "lane"], body := b_size_in, forms := [⟨[], 1, [0]⟩] }
def b_first_count : Sms := (.cons (.ifs (.cmp .eq (.sl 0) (.cs (.str "then")))
    (.cons (.ret (.blt .min2 (.cons (.sl 1) (.cons (.sl 3) .nil))))
    .nil)
    .nil)
    (.cons (.ret (.blt .min2 (.cons (.sl 1) (.cons (.blt .max2 (.cons (.bin .fdiv (.bin .add (.sl 3) (.cs (.int 1))) (.cs (.int 2))) (.cons (.bin .sub (.sl 3) (.sl 2)) .nil))) .nil))))
    .nil))
def d_first_count : FD := { x := "first_count", qual := "first_count", ps := ["kind", "one", "two", "count"], N := ["kind", "one", "two", "count"], body := b_first_count, forms := [⟨[], 4, [0, 1, 2, 3]⟩] }
def b_car_in : Sms := (.cons (.ifs (.cmp .eq (.ix (.sl 0) (.cs (.int 0))) (.cs (.str "lane")))
    (.cons (.ret (.tup (.cons (.ix (.sl 0) (.cs (.int 1))) (.cons (.bin .add (.ix (.sl 0) (.cs (.int 2))) (.sl 1)) .nil))))
    .nil)
    .nil)
    (.cons (.par true [2, 3] (.cons (.cal 8 [] 1 [0] (.cons (.ix (.sl 0) (.cs (.int 1))) .nil) .nil) (.cons (.cal 8 [] 1 [0] (.cons (.ix (.sl 0) (.cs (.int 2))) .nil) .nil) .nil)))
    (.cons (.set 4 (.cal 9 [] 4 [0, 1, 2, 3] (.cons (.ix (.sl 0) (.cs (.int 0))) (.cons (.sl 2) (.cons (.sl 3) (.cons (.sl 1) .nil)))) .nil))
    (.cons (.ifs (.cmp .gt (.cal 9 [] 4 [0, 1, 2, 3] (.cons (.ix (.sl 0) (.cs (.int 0))) (.cons (.sl 2) (.cons (.sl 3) (.cons (.bin .add (.sl 1) (.cs (.int 1))) .nil)))) .nil) (.sl 4))
    (.cons (.ret (.cal 10 [] 2 [0, 1] (.cons (.ix (.sl 0) (.cs (.int 1))) (.cons (.sl 4) .nil)) .nil))
    .nil)
    .nil)
    (.cons (.ret (.cal 10 [] 2 [0, 1] (.cons (.ix (.sl 0) (.cs (.int 2))) (.cons (.bin .sub (.sl 1) (.sl 4)) .nil)) .nil))
    .nil)))))
def d_car_in : FD := { x := "car_in", qual := "car_in", ps := ["plan", "place"], N := ["plan", "place", "one", "two", "ahead"], body := b_car_in, forms := [⟨[], 2, [0, 1]⟩] }
def b_car_at : Sms := (.cons (.exp (.cal 6 [] 1 [0] (.cons (.sl 0) .nil) .nil))
    (.cons (.exp (.cal 1 [] 3 [0, 1, 2] (.cons (.sl 1) (.cons (.cs (.int 0)) (.cons (.bin .sub (.cal 8 [] 1 [0] (.cons (.sl 0) .nil) .nil) (.cs (.int 1))) .nil))) .nil))
    (.cons (.ret (.cal 10 [] 2 [0, 1] (.cons (.sl 0) (.cons (.sl 1) .nil)) .nil))
    .nil)))
def d_car_at : FD := { x := "car_at", qual := "car_at", ps := ["plan", "place"], N := ["plan", "place"], body := b_car_at, forms := [⟨[], 2, [0, 1]⟩] }
def b__law_bag : Sms := (.cons (.ifs (.cmp .lt (.sl 0) (.cs (.int 0)))
    (.cons (.ret (.lst (.cons (.neg (.sl 0)) (.cons (.bin .add (.bin .mul (.cs (.int 37)) (.sl 1)) (.cs (.int 18))) .nil))))
    .nil)
    .nil)
    (.cons (.ret (.lst (.cons (.sl 0) (.cons (.bin .mul (.cs (.int 37)) (.sl 1)) .nil))))
    .nil))
def d__law_bag : FD := { x := "_law_bag", qual := "_law_bag", ps := ["cell", "k"], N := ["cell", "k"], body := b__law_bag, forms := [⟨[], 2, [0, 1]⟩] }
def b__law_draw : Sms := (.cons (.saug 0 1 1)
    (.cons (.ifs (.cmp .ge (.ix (.sl 0) (.cs (.int 0))) (.bin .pow (.cs (.int 10)) (.cs (.int 18))))
    (.cons (.set 2 (.bin .mod (.ix (.sl 0) (.cs (.int 0))) (.sl 1)))
    (.cons (.sub 0 (.cs (.int 0)) (.bin .fdiv (.ix (.sl 0) (.cs (.int 0))) (.sl 1)))
    (.cons (.ret (.sl 2))
    .nil)))
    .nil)
    (.cons (.set 3 (.bin .mod (.bin .add (.bin .add (.bin .mod (.ix (.sl 0) (.cs (.int 0))) (.cs (.int 2147483629))) (.bin .mul (.cs (.int 104729)) (.ix (.sl 0) (.cs (.int 1))))) (.cs (.int 1))) (.cs (.int 2147483587))))
    (.cons (.set 3 (.bin .mod (.bin .mul (.sl 3) (.sl 3)) (.cs (.int 2147483587))))
    (.cons (.set 3 (.bin .mod (.bin .add (.sl 3) (.bin .mul (.cs (.int 40692)) (.ix (.sl 0) (.cs (.int 1))))) (.cs (.int 2147483563))))
    (.cons (.set 3 (.bin .mod (.bin .mul (.sl 3) (.sl 3)) (.cs (.int 2147483563))))
    (.cons (.ret (.bin .mod (.bin .fdiv (.sl 3) (.cs (.int 8))) (.sl 1)))
    .nil)))))))
def d__law_draw : FD := { x := "_law_draw", qual := "_law_draw", ps := ["bag", "many"], N := ["bag", "many", "digit", "one"], body := b__law_draw, forms := [⟨[], 2, [0, 1]⟩] }
def b__law_marks : Sms := (.cons (.set 1 (.lst .nil))
    (.cons (.set 1 (.bin .add (.sl 1) (.lst (.cons (.isx [("EmptyHistoryError", (exMs 12))] (.sl 0)) (.cons (.isx [("InvalidCarError", (exMs 2))] (.sl 0)) .nil)))))
    (.cons (.set 1 (.bin .add (.sl 1) (.lst (.cons (.isx [("InvalidFormatError", (exMs 9))] (.sl 0)) (.cons (.isx [("InvalidLabelsError", (exMs 6))] (.sl 0)) .nil)))))
    (.cons (.set 1 (.bin .add (.sl 1) (.lst (.cons (.isx [("InvalidNameError", (exMs 3))] (.sl 0)) (.cons (.isx [("InvalidNumberError", (exMs 4))] (.sl 0)) .nil)))))
    (.cons (.set 1 (.bin .add (.sl 1) (.lst (.cons (.isx [("InvalidPlanError", (exMs 1))] (.sl 0)) (.cons (.isx [("InvalidRoadError", (exMs 8))] (.sl 0)) .nil)))))
    (.cons (.set 1 (.bin .add (.sl 1) (.lst (.cons (.isx [("InvalidRowError", (exMs 5))] (.sl 0)) (.cons (.isx [("InvalidShapeError", (exMs 7))] (.sl 0)) .nil)))))
    (.cons (.set 1 (.bin .add (.sl 1) (.lst (.cons (.isx [("SameNameError", (exMs 10))] (.sl 0)) (.cons (.isx [("TooManyError", (exMs 11))] (.sl 0)) .nil)))))
    (.cons (.ret (.sl 1))
    .nil))))))))
def d__law_marks : FD := { x := "_law_marks", qual := "_law_marks", ps := ["e"], N := ["e", "marks"], body := b__law_marks, forms := [⟨[], 1, [0]⟩] }
def b__law_caught : Sms := (.cons (.set 2 (.lst .nil))
    (.cons (.tryE (.cons (.exp (.cal 11 [] 2 [0, 1] (.cons (.sl 0) (.cons (.sl 1) .nil)) .nil))
    .nil) 3 2 (exMs 0) "_law_marks" hotTab)
    (.cons (.ret (.sl 2))
    .nil)))
def d__law_caught : FD := { x := "_law_caught", qual := "_law_caught", ps := ["plan", "place"], N := ["plan", "place", "marks", "e"], body := b__law_caught, forms := [⟨[], 2, [0, 1]⟩] }
def b__law_right : Sms := (.cons (.set 1 (.lst .nil))
    (.cons (.set 1 (.bin .add (.sl 1) (.lst (.cons (.mk "EmptyHistoryError" 12 (.sl 0)) (.cons (.mk "InvalidCarError" 2 (.sl 0)) (.cons (.mk "InvalidFormatError" 9 (.sl 0)) .nil))))))
    (.cons (.set 1 (.bin .add (.sl 1) (.lst (.cons (.mk "InvalidLabelsError" 6 (.sl 0)) (.cons (.mk "InvalidNameError" 3 (.sl 0)) (.cons (.mk "InvalidNumberError" 4 (.sl 0)) .nil))))))
    (.cons (.set 1 (.bin .add (.sl 1) (.lst (.cons (.mk "InvalidPlanError" 1 (.sl 0)) (.cons (.mk "InvalidRoadError" 8 (.sl 0)) (.cons (.mk "InvalidRowError" 5 (.sl 0)) .nil))))))
    (.cons (.set 1 (.bin .add (.sl 1) (.lst (.cons (.mk "InvalidShapeError" 7 (.sl 0)) (.cons (.mk "SameNameError" 10 (.sl 0)) (.cons (.mk "TooManyError" 11 (.sl 0)) .nil))))))
    (.cons (.for_ (.nm 2) (.r1 (.cons (.cs (.int 12)) .nil))
    (.cons (.ifs (.cmp .ne (.cal 14 [] 1 [0] (.cons (.ix (.sl 1) (.sl 2)) .nil) .nil) (.lc (.nm 3) (.r1 (.cons (.cs (.int 12)) .nil)) .nil (.cmpV .eq (.sl 3) (.sl 2)) [3]))
    (.cons (.ret (.cs (.bl false)))
    .nil)
    .nil)
    (.cons (.ifs (.bo .Or (.cons (.not (.tru (.isx [("LaneError", (exMs 0))] (.ix (.sl 1) (.sl 2))))) (.cons (.not (.tru (.isx [("ValueError", allT)] (.ix (.sl 1) (.sl 2))))) .nil)))
    (.cons (.ret (.cs (.bl false)))
    .nil)
    .nil)
    .nil)))
    (.cons (.ifs (.cmp .isin (.cs (.bl true)) (.cal 14 [] 1 [0] (.cons (.mk "LaneError" 0 (.sl 0)) .nil) .nil))
    (.cons (.ret (.cs (.bl false)))
    .nil)
    .nil)
    (.cons (.setLc 4 (.nm 5) (.ex (.lst (.cons (.cs (.int 6)) (.cons (.cs (.int 5)) (.cons (.cs (.int 6)) .nil))))) .nil (.lc (.nm 3) (.r1 (.cons (.cs (.int 12)) .nil)) .nil (.cmpV .eq (.sl 3) (.sl 5)) [3]) [5, 3])
    (.cons (.ret (.cmpV .eq (.lst (.cons (.cal 15 [] 2 [0, 1] (.cons (.lst .nil) (.cons (.cs (.int 0)) .nil)) .nil) (.cons (.cal 15 [] 2 [0, 1] (.cons (.tup (.cons (.cs (.str "lane")) (.cons (.cs (.str "a")) (.cons (.cs (.int 0)) (.cons (.cs (.int 1)) .nil))))) (.cons (.cs (.int 1)) .nil)) .nil) (.cons (.cal 15 [] 2 [0, 1] (.cons (.cs .non) (.cons (.cs .non) .nil)) .nil) .nil)))) (.sl 4)))
    .nil)))))))))
def d__law_right : FD := { x := "_law_right", qual := "_law_right", ps := ["message"], N := ["message", "some", "k", "j", "due", "place"], body := b__law_right, forms := [⟨[], 1, [0]⟩] }
def b_law : Sms := (.cons (.set 1 (.bin .add (.cut (.sl 0) .nil (.some (.cs (.int 12)))) (.rep (.lst (.cons (.cs (.int 0)) .nil)) (.blt .int (.cons (.cmpV .eq (.sl 0) (.lst .nil)) .nil)))))
    (.cons (.for_ (.nm 2) (.r1 (.cons (.blt .len (.cons (.sl 1) .nil)) .nil))
    (.cons (.set 3 (.cal 12 [] 2 [0, 1] (.cons (.ix (.sl 1) (.sl 2)) (.cons (.sl 2) .nil)) .nil))
    (.cons (.ifs (.not (.tru (.cal 16 [] 1 [0] (.cons (.bin .mul (.ix (.cs (.str "a| ~")) (.cal 13 [] 2 [0, 1] (.cons (.sl 3) (.cons (.cs (.int 4)) .nil)) .nil)) (.cal 13 [] 2 [0, 1] (.cons (.sl 3) (.cons (.cs (.int 60)) .nil)) .nil)) .nil) .nil)))
    (.cons (.ret (.cs (.bl false)))
    .nil)
    .nil)
    .nil)))
    (.cons (.ret (.cs (.bl true)))
    .nil)))
def d_law : FD := { x := "law", qual := "law", ps := ["script"], N := ["script", "cells", "k", "bag"], body := b_law, forms := [⟨[], 1, [0]⟩] }
abbrev R : List Rw := [⟨d_is_integer, top 18⟩, ⟨d_check_number, top 19⟩, ⟨d_is_name, top 20⟩, ⟨d_is_lane, top 21⟩, ⟨d_is_merge, top 22⟩, ⟨d_is_plan, top 23⟩, ⟨d_check_plan, top 24⟩, ⟨d_lanes_in, top 25⟩, ⟨d_size_in, top 26⟩, ⟨d_first_count, top 27⟩, ⟨d_car_in, top 29⟩, ⟨d_car_at, top 30⟩, ⟨d__law_bag, top 32⟩, ⟨d__law_draw, top 33⟩, ⟨d__law_marks, top 34⟩, ⟨d__law_caught, top 35⟩, ⟨d__law_right, top 36⟩, ⟨d_law, top 37⟩]
abbrev G : List (Str × Gk) := [("isinstance", .bi), ("bool", .bi), ("int", .bi), ("InvalidNumberError", .ex 4 (exMs 4)), ("len", .bi), ("MOST_LETTERS", .cn (.int 8)), ("str", .bi), ("all", .bi), ("LETTERS", .cn (.str "abcdefghijklmnopqrstuvwxyz")), ("tuple", .bi), ("MOST_LANES", .cn (.int 40)), ("InvalidPlanError", .ex 1 (exMs 1)), ("sum", .bi), ("min", .bi), ("max", .bi), ("InvalidCarError", .ex 2 (exMs 2)), ("EmptyHistoryError", .ex 12 (exMs 12)), ("InvalidLabelsError", .ex 6 (exMs 6)), ("InvalidFormatError", .ex 9 (exMs 9)), ("InvalidNameError", .ex 3 (exMs 3)), ("InvalidRoadError", .ex 8 (exMs 8)), ("InvalidShapeError", .ex 7 (exMs 7)), ("InvalidRowError", .ex 5 (exMs 5)), ("TooManyError", .ex 11 (exMs 11)), ("SameNameError", .ex 10 (exMs 10)), ("_law_marks", .hot hotTab), ("LaneError", .ex 0 (exMs 0)), ("range", .bi), ("ValueError", .bx allT)]
theorem chk : (R.all fun r => chkD (fdsOf R) G r.d r.st) = true := by decide +kernel
theorem bnd : ∀ r ∈ R, ∀ fm ∈ r.d.forms, BindEq r.d.x r.d.qual r.st r.d.ps fm :=
  List.forall_mem_cons.mpr ⟨List.forall_mem_cons.mpr ⟨⟨rfl, fun _ _ _ _ _ _ us ws h1 h2 => match us, ws, h1, h2 with | [_, _, _], [], _, _ => rfl⟩, (fun _ h => nomatch h)⟩,
    List.forall_mem_cons.mpr ⟨List.forall_mem_cons.mpr ⟨⟨rfl, fun _ _ _ _ _ _ us ws h1 h2 => match us, ws, h1, h2 with | [_, _, _], [], _, _ => rfl⟩, (fun _ h => nomatch h)⟩,
    List.forall_mem_cons.mpr ⟨List.forall_mem_cons.mpr ⟨⟨rfl, fun _ _ _ _ _ _ us ws h1 h2 => match us, ws, h1, h2 with | [_], [], _, _ => rfl⟩, (fun _ h => nomatch h)⟩,
    List.forall_mem_cons.mpr ⟨List.forall_mem_cons.mpr ⟨⟨rfl, fun _ _ _ _ _ _ us ws h1 h2 => match us, ws, h1, h2 with | [_], [], _, _ => rfl⟩, (fun _ h => nomatch h)⟩,
    List.forall_mem_cons.mpr ⟨List.forall_mem_cons.mpr ⟨⟨rfl, fun _ _ _ _ _ _ us ws h1 h2 => match us, ws, h1, h2 with | [_], [], _, _ => rfl⟩, (fun _ h => nomatch h)⟩,
    List.forall_mem_cons.mpr ⟨List.forall_mem_cons.mpr ⟨⟨rfl, fun _ _ _ _ _ _ us ws h1 h2 => match us, ws, h1, h2 with | [_], [], _, _ => rfl⟩, (fun _ h => nomatch h)⟩,
    List.forall_mem_cons.mpr ⟨List.forall_mem_cons.mpr ⟨⟨rfl, fun _ _ _ _ _ _ us ws h1 h2 => match us, ws, h1, h2 with | [_], [], _, _ => rfl⟩, (fun _ h => nomatch h)⟩,
    List.forall_mem_cons.mpr ⟨List.forall_mem_cons.mpr ⟨⟨rfl, fun _ _ _ _ _ _ us ws h1 h2 => match us, ws, h1, h2 with | [_], [], _, _ => rfl⟩, (fun _ h => nomatch h)⟩,
    List.forall_mem_cons.mpr ⟨List.forall_mem_cons.mpr ⟨⟨rfl, fun _ _ _ _ _ _ us ws h1 h2 => match us, ws, h1, h2 with | [_], [], _, _ => rfl⟩, (fun _ h => nomatch h)⟩,
    List.forall_mem_cons.mpr ⟨List.forall_mem_cons.mpr ⟨⟨rfl, fun _ _ _ _ _ _ us ws h1 h2 => match us, ws, h1, h2 with | [_, _, _, _], [], _, _ => rfl⟩, (fun _ h => nomatch h)⟩,
    List.forall_mem_cons.mpr ⟨List.forall_mem_cons.mpr ⟨⟨rfl, fun _ _ _ _ _ _ us ws h1 h2 => match us, ws, h1, h2 with | [_, _], [], _, _ => rfl⟩, (fun _ h => nomatch h)⟩,
    List.forall_mem_cons.mpr ⟨List.forall_mem_cons.mpr ⟨⟨rfl, fun _ _ _ _ _ _ us ws h1 h2 => match us, ws, h1, h2 with | [_, _], [], _, _ => rfl⟩, (fun _ h => nomatch h)⟩,
    List.forall_mem_cons.mpr ⟨List.forall_mem_cons.mpr ⟨⟨rfl, fun _ _ _ _ _ _ us ws h1 h2 => match us, ws, h1, h2 with | [_, _], [], _, _ => rfl⟩, (fun _ h => nomatch h)⟩,
    List.forall_mem_cons.mpr ⟨List.forall_mem_cons.mpr ⟨⟨rfl, fun _ _ _ _ _ _ us ws h1 h2 => match us, ws, h1, h2 with | [_, _], [], _, _ => rfl⟩, (fun _ h => nomatch h)⟩,
    List.forall_mem_cons.mpr ⟨List.forall_mem_cons.mpr ⟨⟨rfl, fun _ _ _ _ _ _ us ws h1 h2 => match us, ws, h1, h2 with | [_], [], _, _ => rfl⟩, (fun _ h => nomatch h)⟩,
    List.forall_mem_cons.mpr ⟨List.forall_mem_cons.mpr ⟨⟨rfl, fun _ _ _ _ _ _ us ws h1 h2 => match us, ws, h1, h2 with | [_, _], [], _, _ => rfl⟩, (fun _ h => nomatch h)⟩,
    List.forall_mem_cons.mpr ⟨List.forall_mem_cons.mpr ⟨⟨rfl, fun _ _ _ _ _ _ us ws h1 h2 => match us, ws, h1, h2 with | [_], [], _, _ => rfl⟩, (fun _ h => nomatch h)⟩,
    List.forall_mem_cons.mpr ⟨List.forall_mem_cons.mpr ⟨⟨rfl, fun _ _ _ _ _ _ us ws h1 h2 => match us, ws, h1, h2 with | [_], [], _, _ => rfl⟩, (fun _ h => nomatch h)⟩,
    (fun _ h => nomatch h)⟩⟩⟩⟩⟩⟩⟩⟩⟩⟩⟩⟩⟩⟩⟩⟩⟩⟩
/-! ### the head -/
abbrev RO : PySem.W.OpenRow := PySem.W.OpenLaw.row PySem.Challenge.rw_ziplanes_k68_errors_are_distinct
abbrev hk : PySem.W.Hook := hookE 4 (faOfT R G) (fnOfT R)
def ob (s : PySem.W.SharedT) : AlE := obsEG 4 (faOfT R G) (fnOfT R) (HandSHeadRun.getT s)
theorem ob_eq (s : PySem.W.SharedT) : ob s = hk.obs s.abs := obsEG_eq (HandSHeadRun.getT_eq s)
def loose : List PySem.Str := (["LaneError", "InvalidPlanError", "InvalidCarError", "InvalidNameError", "InvalidNumberError", "InvalidRowError", "InvalidLabelsError", "InvalidShapeError", "InvalidRoadError", "InvalidFormatError", "SameNameError", "TooManyError", "EmptyHistoryError", "MOST_LANES", "MOST_LETTERS", "LETTERS", "is_integer", "check_number", "is_name", "is_lane"] : List PySem.Str) ++ (["is_merge", "is_plan", "check_plan", "lanes_in", "size_in", "first_count", "car_in", "car_at", "_law_bag", "_law_draw", "_law_marks", "_law_caught", "_law_right"] : List PySem.Str)
theorem run (w : World) : HandSHeadRun.RunEq RO (PySem.W.view RO.prog [37]) hk ob 4000 loose w := by
  intro os
  kernel_rfl
end Law

set_option maxRecDepth 100000
set_option maxHeartbeats 4000000
/-! A def that is called within an except suite: its promise from its body; isinstance of the error there. -/
namespace FL
open PySem PySem.Spec PyProof.Rows L2

theorem fnE_of {P : Program} {w : World} {K : PySem.W.Frag} {mg : Str → Option Value} {base : Heap} {x qual : Str} {st : Stmt} {f : Addr} {fd : FuncData} {N : List Str} {px : Str} {tab : List (Nat × Sv)} (F : Fun K x qual st f fd) (S : FnScope N [px] (defScope st))
    (hbody : ∀ (cdv : Value) (A : Around) (outer : List Env) (s : Shared) (H : Hp) (Q : VK) (E : XK) (p : Addr × Obj) (k : Nat) (sv : Sv), L2H.Hot1 A p → L2.Zc (.ref (exC K k)) none p.2 → (∃ vs, p.2.data = .fields vs) → tab.lookup k = some sv →
      (∀ v H', (∀ a o, H a = some o → H' a = some o) → (∀ O, SR K H' O v sv) → (∀ a ∈ tmpA v (.tmp sv), H a = none ∧ H' a ≠ none) → Q v H') →
      ∃ t, PSs (L2H.cxH (L2N.CX P w) P w K mg base N qual (defScope st) f cdv A outer s H E p) (defBody st) t ∧ t { nx := fun _ H' => Q .non H', rt := Q } (L2.start N [.ref p.1]) H) : FnE P w K mg base f fd px tab := by
  refine ⟨fun A outer s H args Q E p k sv hr hot hpin hz hf ht e0 hb hq => ?_⟩
  obtain ⟨cc, dd, z1, z2, z3, ann, cdv, z4, sls, rfl, look, code⟩ := F.ex
  have inK : K.In s.heap := e0.mod.kin.keeps fun b o q => (e0.bs b o q).1
  have nol : s.heap.NoLimit := e0.mod.nolimit.keeps fun b o q => (e0.bs b o q).1
  have par : ∀ y ∈ [px].zip [Value.ref p.1], (defScope st).names.lookup y.1 = some .local ∨ ((defScope st).names.lookup y.1 = some .cell ∧ ((cellsFrom (s.heap.objs.size + 1) (defScope st).names []).lookup y.1).isSome = true) := fun ⟨n, v⟩ hy =>
    (S.par n (List.of_mem_zip hy).1).imp id fun q => ⟨q, PySem.W.cellsFrom_some _ _ _ (.inl q)⟩
  refine codeAny_call_function hr.depth (inK _ _ look) rfl S.co S.gen rfl (PySem.W.codeRec_of inK code) (hb _ _ _ _ ?_)
  refine wpAny_newFunctionEnv_cells S.kind par fun env eq s1 call => ?_
  subst eq
  refine ⟨nol.keeps call.toInCall.keep, codeAny_func ?_⟩
  obtain ⟨t, read, q0⟩ := hbody cdv A outer s H Q E p k sv hot hz hf ht hq
  refine wpAny_mono (read.run [] s1 (L2.start N [.ref p.1]) H _ (L2H.inv_startH S hpin e0 (us := [.ref p.1]) (vs := [.ref p.1]) rfl (.cons rfl .nil) call) q0) (fun fl s' hs => ?_) fun _ _ hs => hs
  cases fl with
  | ret u => obtain ⟨v, σ', H', J, rv, q⟩ := hs; exact ⟨v, H', J.os, J.bare, J.base, J.hok, rv, q⟩
  | next => obtain ⟨σ', H', J, q⟩ := hs; exact ⟨V.non, H', J.os, J.bare, J.base, J.hok, rfl, q⟩
  | brk => obtain ⟨_, _, _, q⟩ := hs; exact q.elim
  | cont => obtain ⟨_, _, _, q⟩ := hs; exact q.elim

/-- isinstance(e, C), e the error at hand -/
def rIsP (K : PySem.W.Frag) (a : Addr) (k : Nat) : List V → Hp → VK → Prop := fun xs H Q => ∃ (c : V) (u : Value) (b : Bool), xs = [.ref a, c] ∧ ClsV c u ∧ PySem.W.kitOne K (.ref (exC K k)) u = some b ∧ Q (.bl b) H
section
variable {X : Cx} {a : Addr} {oe : Obj} {k : Nat}
theorem call_isP (hp : (a, oe) ∈ X.pn) (hz : L2.Zc (.ref (exC X.K k)) none oe) (hf : ∃ vs, oe.data = .fields vs) (xf : XF X.K (exC X.K k)) : CallR X (.builtin "isinstance") (rIsP X.K a k) := by
  intro pins s σ H xs us Q I r h
  obtain ⟨c, u, b, rfl, hcv, e, q⟩ := h
  obtain ⟨u1, u2, rfl, r1, r2⟩ := vals2 r
  cases (show u1 = Value.ref a from r1)
  have e2 := hcv.eq r2
  subst e2
  obtain ⟨hget, _⟩ := I.pin (a, oe) (List.mem_append_left _ hp)
  obtain ⟨vs, hv⟩ := hf
  have J : PySem.W.InstAt s.heap a oe (exC X.K k) none := by
    obtain ⟨oc, od, oda, osl⟩ := oe
    obtain ⟨h1, h2⟩ := hz
    dsimp only at h1 h2 hv
    subst h1 h2 hv
    exact ⟨hget, rfl, rfl, trivial⟩
  have C := xf.cc
  exact PySem.W.kia_one (PySem.W.handS_kitx_exc C.hg C.hk C.hs C.hd C.ha C.hn C.ht C.hm) I.kIn J e (fun z => nomatch z) fun tk => ⟨.bl b, H, I.tok tk, rfl, q⟩
/-- what such a test wishes -/
def tIsP (i : Nat) (a : Addr) (b : Bool) : TE := fun σ H Q => σ[i]? = some (some (.ref a)) ∧ Q (.bl b) H
theorem pe_isP {i : Nat} {n x : Str} {b : Bool} {v : V} {u : Value} {p p2 p3 pos : Pos} (hp : (a, oe) ∈ X.pn) (hz : L2.Zc (.ref (exC X.K k)) none oe) (hf : ∃ vs, oe.data = .fields vs) (xf : XF X.K (exC X.K k)) (gl : Gl X "isinstance") (mg : X.mg "isinstance" = none)
    (hi : X.N[i]? = some n) (hv : Vis X.env.scope n) (n1 : (n == ("__debug__" : Str)) = false) (n2 : (n == ("__classdict__" : Str)) = false) (hx : PE X (.Name x p3) (tC v)) (cv : ClsV v u) (kit : PySem.W.kitOne X.K (.ref (exC X.K k)) u = some b) :
    PE X (.Call (.Name "isinstance" p) [.Name n p2, .Name x p3] [] pos) (tIsP i a b) := by
  have s1 : NS (.Name n p2) := fun _ _ z => by cases z
  have s2 : NS (.Name x p3) := fun _ _ z => by cases z
  refine PE_imp (pe_callB (call_isP hp hz hf xf) gl mg (by decide +kernel) (pa_cons (pe_var hi hv n1 n2) (pa_cons hx pa_nil (star_cons s2)) (star_cons s1)) (by decide +kernel) (by decide +kernel) (star_cons s1) (by rw [star_cons s2]; rfl)) fun σ H Q ⟨h1, h2⟩ => ?_
  exact ⟨_, h1, v, u, b, rfl, cv, kit, h2⟩
/-- slot + [.., ..] of tests -/
def tCat (i j : Nat) (a : Addr) (bs : List Bool) : TE := fun σ H Q => σ[i]? = some (some (.ref a)) ∧ ∃ l xs, σ[j]? = some (some (.ref l)) ∧ H l = some (.lst xs) ∧ xs.length + bs.length ≤ sizeLine ∧
  ∀ p r, H p = none → (upd H p (.lst (bs.map V.bl))) r = none → Q (.ref r) (upd (upd H p (.lst (bs.map V.bl))) r (.lst (xs ++ bs.map V.bl)))
theorem pe_cat2 {i j : Nat} {b1 b2 : Bool} {y : Str} {e1 e2 : Expr} {p1 p2 pos : Pos} (hj : X.N[j]? = some y) (hy : Vis X.env.scope y) (n1 : (y == ("__debug__" : Str)) = false) (n2 : (y == ("__classdict__" : Str)) = false) (h1 : PE X e1 (tIsP i a b1)) (h2 : PE X e2 (tIsP i a b2)) (s1 : NS e1) (s2 : NS e2) :
    PE X (.BinOp (.Name y p1) .Add (.List [e1, e2] p2) pos) (tCat i j a [b1, b2]) := by
  refine PE_imp (pe_op op_cat (pe_var hj hy n1 n2) (pe_lst (pa_cons h1 (pa_cons h2 pa_nil (star_cons s2)) (star_cons s1)))) fun σ H Q ⟨hσ, l, xs, e1, e2, hl, q⟩ => ?_
  refine ⟨_, e1, hσ, hσ, by show 2 ≤ sizeLine; have := hl; simp at this; omega, fun p hp => ?_⟩
  have ne : l ≠ p := fun z => by rw [z, hp] at e2; cases e2
  exact ⟨l, p, xs, _, rfl, rfl, (upd_ne ne).trans e2, upd_same, by simpa using hl, fun r hr => q p r hp hr⟩
end
end FL

namespace Law
open PySem PySem.Spec PyProof.Rows L2 FL
local macro_rules | `(tactic| walk_at "W") => `(tactic| (repeat (first | with_reducible refine ret_tmp ?_ | with_reducible refine p_nil ?_ | with_reducible refine s_cons ?_ | with_reducible refine s_nil ?_ | with_reducible refine s_ret ?_ | with_reducible refine s_ifs ?_ | with_reducible refine s_sub ?_ | with_reducible refine s_exp ?_ | with_reducible refine s_parT ?_ | with_reducible refine s_tgt ?_ | with_reducible refine s_setLc ?_ | with_reducible refine s_sk ?_ | with_reducible refine s_brk ?_ | with_reducible refine s_cnt ?_ | with_reducible refine e_cs ?_ | with_reducible refine e_gl ?_ | with_reducible refine e_bin ?_ | with_reducible refine e_ix ?_ | with_reducible refine e_cut ?_ | with_reducible refine e_neg ?_ | with_reducible refine e_ite ?_ | with_reducible refine e_tupT ?_ | with_reducible refine e_lstT ?_ | with_reducible refine e_stl ?_ | with_reducible refine u_nil ?_ | with_reducible refine u_val ?_ | with_reducible refine u_own ?_ | with_reducible refine a_cons ?_ | with_reducible refine a_nil ?_ | with_reducible refine e_bo ?_ | with_reducible refine b_one ?_ | with_reducible refine b_and ?_ | with_reducible refine b_or ?_ | with_reducible refine e_notV ?_ | with_reducible refine e_cmpV ?_ | with_reducible refine e_chnV ?_ | with_reducible refine t_cmp ?_ | with_reducible refine t_chn ?_ | with_reducible refine t_not ?_ | with_reducible refine t_tru ?_ | with_reducible refine t_bo ?_ | with_reducible refine w_one ?_ | with_reducible refine w_and ?_ | with_reducible refine w_or ?_ | with_reducible refine e_blt ?_ | with_reducible refine e_isi ?_ | with_reducible refine e_cal ?_ | with_reducible refine e_lrg ?_ | with_reducible refine e_u1 ?_ | with_reducible refine e_d0t ?_ | with_reducible refine e_d0k ?_ | with_reducible refine e_d1 ?_ | with_reducible refine e_rpl ?_ | with_reducible refine e_sct ?_ | with_reducible refine e_idx ?_ | with_reducible refine e_dgv ?_ | with_reducible refine e_fd ?_ | with_reducible refine e_dls ?_ | with_reducible refine e_dgf ?_ | with_reducible refine s_kput ?_ | with_reducible refine s_dput ?_ | with_reducible refine s_dpt ?_ | with_reducible refine t_ite ?_ | with_reducible refine e_rep ?_ | with_reducible refine o_nil ?_ | with_reducible refine o_some ?_ | with_reducible refine i_ex ?_ | with_reducible refine i_r1 ?_ | with_reducible refine i_r2 ?_ | with_reducible refine i_enu ?_ | with_reducible refine c_nil ?_ | with_reducible refine c_one ?_ | with_reducible refine w_ifT ?_ | with_reducible refine w_ifF ?_ | with_reducible refine w_iteT ?_ | with_reducible refine w_iteF ?_ | with_reducible refine if_t ?_ | with_reducible refine if_f ?_ | (with_reducible refine s_setT ?_) | ((with_reducible apply e_sl); exact rfl) | ((with_reducible apply e_so); exact rfl) | ((with_reducible apply s_aug); exact rfl) | ((with_reducible apply e_mth); exact rfl) | ((with_reducible apply t_dcm); exact rfl; exact rfl) | ((with_reducible apply e_ext); exact rfl) | ((with_reducible apply w_addI); exact rfl; exact rfl) | ((with_reducible apply w_subI); exact rfl; exact rfl) | ((with_reducible apply w_pow); exact rfl; exact rfl; exact (by decide)) | ((with_reducible apply w_mod); exact rfl; exact rfl; exact (by decide)) | ((with_reducible apply w_fdiv); exact rfl; exact rfl; exact (by decide)) | ((with_reducible apply ret_own); exact rfl; exact rfl; try simp only [FL.st, List.set, Int.reduceToNat, List.set_cons_zero, List.set_cons_succ]) | ((with_reducible apply p_cons); exact rfl; exact lt_ble rfl; try simp only [FL.st, List.set, Int.reduceToNat, List.set_cons_zero, List.set_cons_succ]) | ((with_reducible show And _ _); refine ⟨line_le (Nat.le_of_ble_eq_true rfl), ?_⟩) | ((with_reducible show And _ _); refine ⟨rfl, lt_ble rfl, ?_⟩; try simp only [FL.st, List.set, Int.reduceToNat, List.set_cons_zero, List.set_cons_succ]) | ((with_reducible show Exists _); refine ⟨_, _, _, rfl, rfl, eq_int, ?_⟩) | ((with_reducible show Exists _); refine ⟨_, _, _, rfl, rfl, ne_int, ?_⟩) | ((with_reducible show Exists _); refine ⟨_, _, _, rfl, rfl, ?_⟩) | ((with_reducible show Exists _); refine ⟨_, _, _, rfl, rfl, rfl, ?_⟩) | ((with_reducible show Exists _); refine ⟨_, _, rfl, rfl, ?_⟩) | ((with_reducible show Exists _); refine ⟨_, rfl, ?_⟩) | ((with_reducible show Exists _); refine ⟨_, rfl, rfl, ?_⟩; try simp only [FL.st, List.set, Int.reduceToNat, List.set_cons_zero, List.set_cons_succ]) | ((with_reducible show Exists _); refine ⟨_, _, _, _, _, rfl, rfl, rfl, rfl, ?_⟩; try simp only [FL.st, List.set, Int.reduceToNat, List.set_cons_zero, List.set_cons_succ]) | ((with_reducible show Exists _); refine ⟨_, _, _, _, _, rfl, rfl, rfl, ?_⟩; try simp only [FL.st, List.set, Int.reduceToNat, List.set_cons_zero, List.set_cons_succ]) | ((with_reducible show And _ _); refine ⟨rfl, ?_⟩) | refine if_f ?_ | refine if_t ?_)))
theorem look_memN {α : Type} : ∀ {l : List (Nat × α)} {x : Nat} {v : α}, l.lookup x = some v → (x, v) ∈ l
  | (n, w) :: l, x, v, h => by
    rw [List.lookup_cons] at h
    cases q : x == n with
    | true => rw [q] at h; cases h; rw [eq_of_beq q]; exact List.mem_cons_self
    | false => rw [q] at h; exact List.mem_cons_of_mem _ (look_memN h)
theorem tab_at {k : Nat} {sv : Sv} (h : hotTab.lookup k = some sv) : k < 13 ∧ sv = .own (.lst (marksL.map fun j => D.bl (decide (j = k)))) := by
  obtain ⟨i, hi, e⟩ := List.mem_map.mp (show (k, sv) ∈ (List.range 13).map fun k => (k, Sv.own (.lst (marksL.map fun j => D.bl (decide (j = k))))) from look_memN h)
  cases e
  exact ⟨List.mem_range.mp hi, rfl⟩
section
variable {K : PySem.W.Frag} {h : Heap} {mg : Str → Option Value}
theorem ex_mg (X : K.In h) (N : h.Ns mainGlobals mg) (c : He.SaysD (faOfT R G) (fnOfT R) K) {x : Str} {k : Nat} {ms : List Bool} (e : G.lookup x = some (.ex k ms)) (hx : exNm[k]? = some x) : mg x = some (.ref (exC K k)) := by
  obtain ⟨i, hi⟩ := says_at (l := faOfT R G) (x := He.Fa.glo x) (List.mem_append_right _ (List.mem_flatMap.mpr ⟨_, look_mem e, List.mem_cons_self⟩))
  have m := He.glo_ok X N (c.fact i hi)
  have : exC K k = He.ga K x := by unfold exC; rw [List.getD_eq_getElem?_getD, hx]; rfl
  rw [this]; exact m
theorem bi_mg (X : K.In h) (N : h.Ns mainGlobals mg) (c : He.SaysD (faOfT R G) (fnOfT R) K) {x : Str} (e : G.lookup x = some .bi) : mg x = none := by
  obtain ⟨i, hi⟩ := says_at (l := faOfT R G) (x := He.Fa.free x) (List.mem_append_right _ (List.mem_flatMap.mpr ⟨_, look_mem e, List.mem_cons_self⟩))
  exact He.free_ok X N (c.fact i hi)
theorem kit_j (pk : pkE K = true) {j k : Nat} (hj : j < 13) (h0 : j ≠ 0) (hk : k < 13) : PySem.W.kitOne K (.ref (exC K k)) (.ref (exC K j)) = some (decide (j = k)) := by
  refine (pkE_ok pk hj).2.2 k _ ?_
  unfold exMs
  rw [List.getElem?_map, List.getElem?_range hk]
  show some (decide (j = 0) || decide (k = j)) = _
  rw [decide_eq_false h0, Bool.false_or]
  congr 1
  by_cases e : j = k
  · subst e; rfl
  · rw [decide_eq_false e, decide_eq_false fun z => e z.symm]
end
/-- where the marks stand -/
structure Mk (H : Hp) (a : Addr) (σ : List (Option V)) (xs : List V) (Hc : Hp) : Prop where
  ex : ∃ l, σ = [some (.ref a), some (.ref l)] ∧ Hc l = some (.lst xs) ∧ H l = none
  keep : ∀ b o, H b = some o → Hc b = some o
theorem Mk.cat {H Hc : Hp} {a p r : Addr} {σ : List (Option V)} {xs : List V} {bs : List Bool} (m : Mk H a σ xs Hc) (hp : Hc p = none) (hr : (upd Hc p (.lst (bs.map V.bl))) r = none) :
    Mk H a (σ.set 1 (some (.ref r))) (xs ++ bs.map V.bl) (upd (upd Hc p (.lst (bs.map V.bl))) r (.lst (xs ++ bs.map V.bl))) := by
  obtain ⟨l, rfl, e1, e2⟩ := m.ex
  refine ⟨⟨r, rfl, upd_same, ?_⟩, fun b o e => upd_keep hr b o (upd_keep hp b o (m.keep b o e))⟩
  cases q : H r with
  | none => rfl
  | some o => rw [upd_keep hp r o (m.keep r o q)] at hr; cases hr
theorem Mk.at {H Hc : Hp} {a : Addr} {σ : List (Option V)} {xs : List V} (m : Mk H a σ xs Hc) : σ[0]? = some (some (.ref a)) ∧ ∃ l, σ[1]? = some (some (.ref l)) ∧ Hc l = some (.lst xs) := by
  obtain ⟨l, rfl, e1, e2⟩ := m.ex
  exact ⟨rfl, l, rfl, e1⟩
theorem cat_go {H Hc : Hp} {a : Addr} {σ : List (Option V)} {xs : List V} {b1 b2 : Bool} {Q : VK} (m : Mk H a σ xs Hc) (hl : xs.length ≤ 100) (q : ∀ r H2, Mk H a (σ.set 1 (some (.ref r))) (xs ++ [.bl b1, .bl b2]) H2 → Q (.ref r) H2) : tCat 0 1 a [b1, b2] σ Hc Q := by
  obtain ⟨h0, l, h1, h2⟩ := m.at
  exact ⟨h0, l, xs, h1, h2, by rw [sizeLine_eq]; show xs.length + 2 ≤ _; omega, fun p r hp hr => q r _ (m.cat hp hr)⟩
set_option maxHeartbeats 20000000 in
theorem hot_ok : HotOk R G := fun K h mg X N c pk x tab hm => by
  have hx : x = "_law_marks" ∧ tab = hotTab := by
    simp only [G, List.mem_cons, Prod.mk.injEq, reduceCtorEq, and_false, false_or, or_false, List.not_mem_nil, Gk.hot.injEq] at hm
    exact hm
  obtain ⟨rfl, rfl⟩ := hx
  have hr : (⟨d__law_marks, top 34⟩ : Rw) ∈ R := List.mem_of_getElem? (i := 14) rfl
  obtain ⟨f, fd, F, m⟩ := def_at X N c 14 (r := ⟨d__law_marks, top 34⟩) rfl
  obtain ⟨S, _⟩ := chkD_scope (List.all_eq_true.mp chk _ hr)
  refine ⟨f, fd, "e", m, F.kp, fun s us _ hl => ?_, fun P w base => fnE_of F S fun cdv A outer s H Q E p k sv hot hz hf ht hq => ?_⟩
  · obtain ⟨oc, od, kV, doc, pm, an, cdv, ct, osl, e1, lk, hcd⟩ := F.ex
    match us, hl with
    | [u], _ =>
      rw [e1]
      exact .of_eq (((bnd _ hr ⟨[], 1, [0]⟩ (List.mem_singleton.mpr rfl)).2 kV doc pm an cdv ct [u] [] rfl rfl).trans rfl)
  · obtain ⟨hk, rfl⟩ := tab_at ht
    obtain ⟨xf, _, _⟩ := pkE_ok pk hk
    generalize hX : L2H.cxH (L2N.CX P w) P w K mg base d__law_marks.N d__law_marks.qual (defScope (top 34)) f cdv A outer s H E p = Y
    have eK : Y.K = K := by rw [← hX]; rfl
    have eM : Y.mg = mg := by rw [← hX]; rfl
    have eN : Y.N = d__law_marks.N := by rw [← hX]; rfl
    have eS : Y.env.scope = defScope (top 34) := by rw [← hX]; rfl
    have hp : (p.1, p.2) ∈ Y.pn := by rw [← hX]; exact List.mem_singleton.mpr rfl
    have gl : ∀ x : Str, (defScope (top 34)).names.lookup x = some .globalImplicit → Gl Y x := fun x e => by
      show Y.env.scope.names.lookup x = _
      rw [eS]; exact e
    have lo : ∀ x : Str, (defScope (top 34)).names.lookup x = some .local → Y.env.scope.names.lookup x = some .local := fun x e => by rw [eS]; exact e
    have l0 := lo "e" (by decide +kernel)
    have l1 := lo "marks" (by decide +kernel)
    have mi : Y.mg "isinstance" = none := by rw [eM]; exact bi_mg X N c rfl
    have gi := gl "isinstance" (by decide +kernel)
    have isP : ∀ (x : Str) (j : Nat) (q1 q2 q3 q4 : Pos), exNm[j]? = some x → G.lookup x = some (.ex j (exMs j)) → j ≠ 0 → (defScope (top 34)).names.lookup x = some .globalImplicit → (x == ("__debug__" : Str)) = false →
        PE Y (.Call (.Name "isinstance" q1) [.Name "e" q2, .Name x q3] [] q4) (tIsP 0 p.1 (decide (j = k))) := fun x j q1 q2 q3 q4 h1 h2 h3 h4 h5 =>
      pe_isP (k := k) hp (by rw [eK]; exact hz) hf (by rw [eK]; exact xf) gi mi (by rw [eN]; rfl) (.inl l0) (by decide +kernel) (by decide +kernel) (pe_glob (v := .ref (exC K j)) (gl x h4) (by rw [eM]; exact ex_mg X N c h2 h1) rfl h5) (.own _)
        (by rw [eK]; exact kit_j pk (List.getElem?_eq_some_iff.mp h1).1 h3 hk)
    have cat : ∀ (x y : Str) (i j : Nat) (q1 q2 q3 q4 r1 r2 r3 r4 s1 s2 s3 s4 s5 : Pos), exNm[i]? = some x → exNm[j]? = some y → G.lookup x = some (.ex i (exMs i)) → G.lookup y = some (.ex j (exMs j)) → i ≠ 0 → j ≠ 0 →
        (defScope (top 34)).names.lookup x = some .globalImplicit → (defScope (top 34)).names.lookup y = some .globalImplicit → (x == ("__debug__" : Str)) = false → (y == ("__debug__" : Str)) = false →
        PS Y (.Assign [.Name "marks" s1] (.BinOp (.Name "marks" s2) .Add (.List [.Call (.Name "isinstance" q1) [.Name "e" q2, .Name x q3] [] q4, .Call (.Name "isinstance" r1) [.Name "e" r2, .Name y r3] [] r4] s3) s4) s5)
          (tAsg (tCat 0 1 p.1 [decide (i = k), decide (j = k)]) (gName 1)) := fun x y i j q1 q2 q3 q4 r1 r2 r3 r4 s1 s2 s3 s4 s5 a1 a2 a3 a4 a5 a6 a7 a8 a9 a10 =>
      ps_set (i := 1) (by rw [eN]; decide +kernel) (by rw [eN]; rfl) (.inl l1) (pe_cat2 (j := 1) (by rw [eN]; rfl) (.inl l1) (by decide +kernel) (by decide +kernel) (isP x i _ _ _ _ a1 a3 a5 a7 a9) (isP y j _ _ _ _ a2 a4 a6 a8 a10) (fun _ _ z => by cases z) fun _ _ z => by cases z) (swaps_of rfl) (.inr l1)
    have go : ∀ {x y : Str} {i j : Nat} {q1 q2 q3 q4 r1 r2 r3 r4 s1 s2 s3 s4 s5 : Pos}, (decide (exNm[i]? = some x) && decide (exNm[j]? = some y) && msG G x (exMs i) && msG G y (exMs j)) = true → True := fun _ => trivial
    refine ⟨_, pss_cons (ps_set (i := 1) (by rw [eN]; decide +kernel) (by rw [eN]; rfl) (.inl l1) (pe_lst pa_nil) (swaps_of rfl) (.inr l1)) (pss_cons (cat "EmptyHistoryError" "InvalidCarError" 12 2 _ _ _ _ _ _ _ _ _ _ _ _ _ rfl rfl rfl rfl (by decide) (by decide) (by decide +kernel) (by decide +kernel) (by decide +kernel) (by decide +kernel))
      (pss_cons (cat "InvalidFormatError" "InvalidLabelsError" 9 6 _ _ _ _ _ _ _ _ _ _ _ _ _ rfl rfl rfl rfl (by decide) (by decide) (by decide +kernel) (by decide +kernel) (by decide +kernel) (by decide +kernel))
      (pss_cons (cat "InvalidNameError" "InvalidNumberError" 3 4 _ _ _ _ _ _ _ _ _ _ _ _ _ rfl rfl rfl rfl (by decide) (by decide) (by decide +kernel) (by decide +kernel) (by decide +kernel) (by decide +kernel))
      (pss_cons (cat "InvalidPlanError" "InvalidRoadError" 1 8 _ _ _ _ _ _ _ _ _ _ _ _ _ rfl rfl rfl rfl (by decide) (by decide) (by decide +kernel) (by decide +kernel) (by decide +kernel) (by decide +kernel))
      (pss_cons (cat "InvalidRowError" "InvalidShapeError" 5 7 _ _ _ _ _ _ _ _ _ _ _ _ _ rfl rfl rfl rfl (by decide) (by decide) (by decide +kernel) (by decide +kernel) (by decide +kernel) (by decide +kernel))
      (pss_cons (cat "SameNameError" "TooManyError" 10 11 _ _ _ _ _ _ _ _ _ _ _ _ _ rfl rfl rfl rfl (by decide) (by decide) (by decide +kernel) (by decide +kernel) (by decide +kernel) (by decide +kernel))
      (pss_cons (ps_ret (pe_var (i := 1) (by rw [eN]; rfl) (.inl l1) (by decide +kernel) (by decide +kernel))) pss_nil))))))), ?_⟩
    refine ⟨by show 0 ≤ sizeLine; exact Nat.zero_le _, fun p0 h0 => ?_⟩
    have m0 : Mk H p.1 [some (.ref p.1), some (.ref p0)] [] (upd H p0 (.lst [])) := ⟨⟨p0, rfl, upd_same, h0⟩, fun b o e => upd_keep h0 b o e⟩
    dsimp only [gName, tSeq, tAsg, tRet, tNext]
    refine cat_go m0 (by simp) fun r1 H1 m1 => ?_
    refine cat_go m1 (by simp) fun r2 H2 m2 => ?_
    refine cat_go m2 (by simp) fun r3 H3 m3 => ?_
    refine cat_go m3 (by simp) fun r4 H4 m4 => ?_
    refine cat_go m4 (by simp) fun r5 H5 m5 => ?_
    refine cat_go m5 (by simp) fun r6 H6 m6 => ?_
    obtain ⟨l, e1, e2, e3⟩ := m6.ex
    refine ⟨.ref r6, rfl, hq _ _ m6.keep (fun O => ?_) fun b hb => ?_⟩
    · have el : r6 = l := by injection e1 with _ e; injection e with e; injection e with e; injection e with e
      subst el
      exact ⟨_, _, rfl, e2, .cons (.bl _) (.cons (.bl _) (.cons (.bl _) (.cons (.bl _) (.cons (.bl _) (.cons (.bl _) (.cons (.bl _) (.cons (.bl _) (.cons (.bl _) (.cons (.bl _) (.cons (.bl _) (.cons (.bl _) .nil)))))))))))⟩
    · have el : r6 = l := by injection e1 with _ e; injection e with e; injection e with e; injection e with e
      subst el
      have : b = r6 := by simpa [tmpA] using hb
      subst this
      exact ⟨e3, by rw [e2]; exact fun z => nomatch z⟩
end Law

section
open PySem PySem.W PySem.Calls PyProof.Rows
set_option maxHeartbeats 8000000 in
theorem Law.head_of (math : ∀ ns : List Int, ns.length ≤ 63 → ∃ outs, FL.callF (FL.fdsOf Law.R) 2000 70 17 [.val (.lst (ns.map FL.D.int))] = .ok (.val (.bl true)) outs) : PySem.Challenge.rw_ziplanes_k68_errors_are_distinct.Holds := by
  w_on; o_law
  refine HandSHeadRun.head_any (r := Law.RO) (q := view Law.RO.prog [37]) (H := Law.hk) (ob := Law.ob) (M := 4000) (loose := Law.loose) (d := HandSHeadRun.topDef Law.RO.prog 37) (kwd := []) Law.ob_eq
    (by kernel_rfl) (fun s => by kernel_rfl) Law.run (by kernel_rfl) (by kernel_rfl) (by kernel_rfl) (by rfl) (by first | assumption | decide +kernel) (by decide +kernel) ⟨rfl, rfl, rfl, rfl, rfl, by decide +kernel⟩ ?hw ?hc
  case hw => w_witness2
  case hc =>
    exact FL.law_ofE (l := PySem.Challenge.rw_ziplanes_k68_errors_are_distinct) (m := 63) (n := 70) (nw := 2000) (id := 17) (R := Law.R) (G := Law.G) (r := ⟨Law.d_law, Law.top 37⟩) (x := "script") (hk := Law.hk) (fun w h y => y) Law.hot_ok rfl (by decide) (by kernel_rfl) ⟨rfl, by decide, by decide⟩
      (by decide +kernel) (fun r hr => List.all_eq_true.mp Law.chk r hr) Law.bnd rfl rfl (by kernel_rfl) (List.mem_singleton.mpr rfl) math

end

set_option maxRecDepth 100000
set_option maxHeartbeats 4000000
set_option exponentiation.threshold 10000
/-! Plans, names, draws, rests: plain mathematics. -/
namespace Law
open PySem PySem.Spec PyProof.Rows L2 FL
/-- a source of draws: c at most k -/
def Pool (k : Nat) (ds : List D) : Prop := ∃ a b c : Int, ds = [.int a, .int b, .int c] ∧ 0 ≤ a ∧ 0 ≤ b ∧ b < 2 ^ 300 ∧ 0 ≤ c ∧ c ≤ k
theorem Pool.mono {k j : Nat} {ds : List D} (h : Pool k ds) (l : k ≤ j) : Pool j ds := by
  obtain ⟨a, b, c, e, h1, h2, h3, h4, h5⟩ := h
  exact ⟨a, b, c, e, h1, h2, h3, h4, by omega⟩
theorem abs_lt {x : Int} {k : Nat} (h0 : 0 ≤ x) (h : x < (2 : Int) ^ k) : x.natAbs < 2 ^ k := by
  have e : (x.natAbs : Int) = x := Int.natAbs_of_nonneg h0
  have : ((x.natAbs : Nat) : Int) < ((2 ^ k : Nat) : Int) := by rw [e]; push_cast; exact h
  exact Int.ofNat_lt.mp this
theorem pow_ok {x : Int} (h0 : 0 ≤ x) (h : x < (2 : Int) ^ 400) : 0 ≤ (3 : Int) ∧ (Builtin.Int.intBits x : Int) * 3 ≤ 134217728 := by
  have := bits_le (abs_lt h0 h)
  omega
abbrev pool (a b c : Int) : List D := [.int a, .int b, .int c]
/-! ### the words themselves -/
def alph : Str := "abcdefghijklmnopqrstuvwxyz"
def lw (a e : Nat) : Str := ⟨((97 + a / 26) :: (97 + a % 26) :: List.replicate e 120).toArray⟩
def sl1 (c : Nat) : Str := ⟨#[97 + c]⟩
theorem alph_at : ∀ k : Nat, k < 26 → L2.atI alph.cps.toList (k : Int) = some (97 + k) := by decide +kernel
theorem alph_len : alph.length = 26 := by decide +kernel
theorem alph_ix {i : Int} {k : Nat} (e : i = k) (h : k < 26) : ixD (.str alph) (.int i) = some (.str ⟨#[97 + k]⟩) := by
  subst e
  show (if alph.length ≤ lineN then (L2.atI alph.cps.toList (k : Int)).map _ else none) = _
  rw [if_pos (by rw [alph_len, lineN_val]; decide), alph_at k h]; rfl
theorem mul_x : ∀ e ∈ [0, 0, 1, 6], Txt.mul ("x" : Str) ((e : Nat) : Int) = ⟨(List.replicate e 120).toArray⟩ := by decide +kernel
theorem lw_eq {a e : Nat} : (⟨#[97 + a / 26]⟩ ++ ⟨#[97 + a % 26]⟩ : Str) ++ ⟨(List.replicate e 120).toArray⟩ = lw a e := by
  show (⟨(#[97 + a / 26] ++ #[97 + a % 26]) ++ (List.replicate e 120).toArray⟩ : Str) = _
  unfold lw
  congr 1
  simp
theorem lw_len {a e : Nat} : (lw a e).length = e + 2 := by
  show (lw a e).cps.size = _
  simp [lw]
theorem lw_inj {a b e f : Nat} (h : lw a e = lw b f) : a = b := by
  unfold lw at h
  injection h with h
  injection h with h
  injection h with h1 h
  injection h with h2 h
  omega
theorem lw_ne {a e c : Nat} : lw a e ≠ sl1 c := fun h => by
  unfold lw sl1 at h
  injection h with h
  injection h with h
  injection h with h1 h
  cases h
theorem lw_ix {a e : Nat} (he : e ≤ 6) : ixD (.str (lw a e)) (.int 0) = some (.str (sl1 (a / 26))) := by
  show (if (lw a e).length ≤ lineN then (L2.atI (lw a e).cps.toList 0).map _ else none) = _
  rw [if_pos (by rw [lw_len, lineN_val]; omega)]
  have e : L2.atI (lw a e).cps.toList 0 = some (97 + a / 26) := by
    unfold L2.atI L2.ixN
    rw [if_pos (Int.le_refl 0), if_pos (by simp [lw]; omega)]
    rfl
  rw [e]; rfl
def nameOk (w : Str) : Bool := decide (1 ≤ w.length) && decide (w.length ≤ 8) && w.cps.toList.all fun c => decide (97 ≤ c) && decide (c ≤ 122)
theorem lw_ok {a e : Nat} (ha : a < 676) (he : e ≤ 6) : nameOk (lw a e) = true := by
  unfold nameOk
  rw [lw_len]
  have : 97 + a / 26 ≤ 122 := by omega
  have h2 : 97 + a % 26 ≤ 122 := by omega
  simp [lw]
  omega
theorem sl1_ok {c : Nat} (hc : c < 26) : nameOk (sl1 c) = true := by
  unfold nameOk
  have : (sl1 c).length = 1 := rfl
  rw [this]
  simp [sl1]
  omega
theorem nameOk_str {w : Str} (h : nameOk w = true) : PyData.strOk w = true := by
  unfold nameOk at h
  simp only [Bool.and_eq_true, List.all_eq_true, decide_eq_true_eq] at h
  unfold PyData.strOk
  rw [Array.all_eq_true']
  intro x hx
  have := h.2 x (by simpa using hx)
  simp
  omega
structure WInv (lf : List Nat) (fs : List Str) : Prop where
  nd : lf.Nodup
  lt : ∀ a ∈ lf, a < 676
  ok : ∀ w ∈ fs, nameOk w = true
  fnd : fs.Nodup
  fr : ∀ a ∈ lf, ∀ e, lw a e ∉ fs
theorem WInv.add {lf : List Nat} {fs : List Str} (h : WInv lf fs) {r : Nat} (hr : r < lf.length) {w : Str} (hw : nameOk w = true) (hn : w ∉ fs) (hf : ∀ a ∈ lf.eraseIdx r, ∀ e, lw a e ≠ w) : WInv (lf.eraseIdx r) (fs ++ [w]) := by
  have sub : ∀ a ∈ lf.eraseIdx r, a ∈ lf := fun a ha => List.mem_of_mem_eraseIdx ha
  refine ⟨h.nd.sublist (List.eraseIdx_sublist _ _), fun a ha => h.lt a (sub a ha), fun v hv => ?_, ?_, fun a ha e hv => ?_⟩
  · rcases List.mem_append.mp hv with hv | hv
    · exact h.ok v hv
    · rw [List.mem_singleton.mp hv]; exact hw
  · refine List.nodup_append.mpr ⟨h.fnd, by simp, fun a ha b hb e => ?_⟩
    rw [List.mem_singleton.mp hb] at e
    subst e
    exact hn ha
  · rcases List.mem_append.mp hv with hv | hv
    · exact h.fr a (sub a ha) e hv
    · exact hf a ha e (List.mem_singleton.mp hv)
theorem erase_ne {lf : List Nat} {r : Nat} (nd : lf.Nodup) (hr : r < lf.length) : lf[r] ∉ lf.eraseIdx r := by
  have e1 : lf = lf.take r ++ lf[r] :: lf.drop (r + 1) := by rw [← List.drop_eq_getElem_cons hr, List.take_append_drop]
  have nd2 := nd
  rw [e1] at nd2
  obtain ⟨_, n2, n3⟩ := List.nodup_append.mp nd2
  rw [List.eraseIdx_eq_take_drop_succ]
  intro h
  rcases List.mem_append.mp h with h | h
  · exact n3 _ h _ List.mem_cons_self rfl
  · exact (List.nodup_cons.mp n2).1 h
theorem map_erase {α β : Type} (f : α → β) : ∀ (l : List α) (i : Nat), (l.map f).eraseIdx i = (l.eraseIdx i).map f
  | [], _ => rfl
  | _ :: _, 0 => rfl
  | a :: l, i + 1 => by simp only [List.map_cons, List.eraseIdx_cons_succ, map_erase f l i]
theorem ix4 {r : Int} (h0 : 0 ≤ r) (h1 : r < 4) : ∃ e : Nat, e ∈ [0, 0, 1, 6] ∧ ixD (.lst [.int 0, .int 0, .int 1, .int 6]) (.int r) = some (.int e) := by
  have : r = 0 ∨ r = 1 ∨ r = 2 ∨ r = 3 := by omega
  rcases this with h | h | h | h <;> subst h
  · exact ⟨0, by simp, rfl⟩
  · exact ⟨0, by simp, rfl⟩
  · exact ⟨1, by simp, rfl⟩
  · exact ⟨6, by simp, rfl⟩
inductive Pl where
  | lane (w : Str) (b s : Int) | node (z : Bool) (l r : Pl)
def kd (z : Bool) : Str := if z = true then "zip" else "then"
abbrev Ln := Str × Int × Int
def laneD (l : Ln) : D := .tup [.str "lane", .str l.1, .int l.2.1, .int l.2.2]
def Pl.d : Pl → D
  | .lane w b s => laneD (w, b, s)
  | .node z l r => .tup [.str (kd z), l.d, r.d]
def Pl.lanes : Pl → List Ln
  | .lane w b s => [(w, b, s)]
  | .node _ l r => l.lanes ++ r.lanes
def Pl.zips : Pl → Bool
  | .lane _ _ _ => true
  | .node z l r => z && l.zips && r.zips
def big : Int := 1000000000000000000000000000000
def LnOk (l : Ln) : Prop := nameOk l.1 = true ∧ 0 ≤ l.2.1 ∧ 0 ≤ l.2.2
def LnSm (l : Ln) : Prop := l.2.1 ≤ big ∧ l.2.2 ≤ big
structure LsOk (ls : List Ln) : Prop where
  ok : ∀ l ∈ ls, LnOk l
  nd : (ls.map (·.1)).Nodup
  few : ls.length ≤ 40
  one : 1 ≤ ls.length
theorem big_eq : (10 : Int) ^ 30 = big := by decide
theorem lt8 {m : Int} (h : m ≤ 1000000000000000000000000000001) : m < 2 ^ 8000 := Int.lt_of_le_of_lt h (by decide)
/-- ints from a list of four -/
theorem ix_four {a b c d r : Int} {Q : Int → Prop} (h0 : 0 ≤ r) (h1 : r < 4) (ha : Q a) (hb : Q b) (hc : Q c) (hd : Q d) : ∃ e, Q e ∧ ixD (.lst [.int a, .int b, .int c, .int d]) (.int r) = some (.int e) := by
  have : r = 0 ∨ r = 1 ∨ r = 2 ∨ r = 3 := by omega
  rcases this with h | h | h | h <;> subst h
  · exact ⟨a, ha, rfl⟩
  · exact ⟨b, hb, rfl⟩
  · exact ⟨c, hc, rfl⟩
  · exact ⟨d, hd, rfl⟩
theorem ix_three {a b c r : Int} {Q : Int → Prop} (h0 : 0 ≤ r) (h1 : r < 3) (ha : Q a) (hb : Q b) (hc : Q c) : ∃ e, Q e ∧ ixD (.lst [.int a, .int b, .int c]) (.int r) = some (.int e) := by
  have : r = 0 ∨ r = 1 ∨ r = 2 := by omega
  rcases this with h | h | h <;> subst h
  · exact ⟨a, ha, rfl⟩
  · exact ⟨b, hb, rfl⟩
  · exact ⟨c, hc, rfl⟩
theorem ix_tops {g : Bool} {m : Int} (e : m = big) : ∃ a b c d : Int, ixD (.lst [.lst [.int 3, .int 2, .int 6, .int 1], .lst [.int m, .int (10 ^ (6 : Int).toNat), .int 40, .int 3]]) (.int (if g = true then 1 else 0)) = some (.lst [.int a, .int b, .int c, .int d]) ∧
    (0 ≤ a ∧ a ≤ big) ∧ (0 ≤ b ∧ b ≤ big) ∧ (0 ≤ c ∧ c ≤ big) ∧ (0 ≤ d ∧ d ≤ big) := by
  cases g
  · exact ⟨3, 2, 6, 1, rfl, by decide, by decide, by decide, by decide⟩
  · subst e; exact ⟨big, 10 ^ (6 : Int).toNat, 40, 3, rfl, by decide, by decide, by decide, by decide⟩
theorem lanes_pos : ∀ p : Pl, 1 ≤ p.lanes.length
  | .lane _ _ _ => Nat.le_refl 1
  | .node _ l r => by
    show 1 ≤ (l.lanes ++ r.lanes).length
    rw [List.length_append]
    have := lanes_pos l
    omega
theorem flat_len : ∀ ps : List Pl, ps.length ≤ (ps.flatMap Pl.lanes).length
  | [] => Nat.le_refl 0
  | p :: ps => by
    rw [List.flatMap_cons, List.length_append, List.length_cons]
    have := lanes_pos p
    have := flat_len ps
    omega
theorem two_at {α : Type} {ps : List α} {i : Nat} (h : i + 1 < ps.length) : ∃ x y, ps[i]? = some x ∧ ps[i + 1]? = some y ∧ ps = ps.take i ++ x :: y :: ps.drop (i + 2) :=
  ⟨ps[i], ps[i + 1], List.getElem?_eq_getElem (by omega), List.getElem?_eq_getElem h, by
    rw [← List.drop_eq_getElem_cons h, ← List.drop_eq_getElem_cons (by omega), List.take_append_drop]⟩
theorem ix_kinds {r : Int} (h0 : 0 ≤ r) (h1 : r < 3) : ∃ z, ixD (.lst [.str "zip", .str "zip", .str "then"]) (.int r) = some (.str (kd z)) := by
  have : r = 0 ∨ r = 1 ∨ r = 2 := by omega
  rcases this with h | h | h <;> subst h
  · exact ⟨true, rfl⟩
  · exact ⟨true, rfl⟩
  · exact ⟨false, rfl⟩
theorem ix_ps {ps : List Pl} {i : Int} {p : Pl} (h0 : 0 ≤ i) (h : ps[i.toNat]? = some p) : ixD (.lst (ps.map Pl.d)) (.int i) = some p.d := by
  have hl := (List.getElem?_eq_some_iff.mp h).1
  obtain ⟨d, e1, e2, _⟩ := ix_lst (ds := ps.map Pl.d) h0 (by rw [List.length_map]; omega)
  rw [List.getElem?_map, h] at e1
  cases e1
  exact e2
theorem w_callV {F : List Sv → FL.CR} {S : FS} {P : FL.Arg → FS → Prop} : ∀ (ds : List D), CS (F (ds.map Sv.val)) (fun r _ => P (.tmp r) S) → Sat (calR F (ds.map fun d => FL.Arg.tmp (.val d)) S) P := fun ds h => by
  have e1 : ∀ ds : List D, refsOf (ds.map fun d => FL.Arg.tmp (.val d)) = [] := fun ds => by
    induction ds with
    | nil => rfl
    | cons d ds ih => exact ih
  have e2 : ∀ ds : List D, lendA S (ds.map fun d => FL.Arg.tmp (.val d)) = some (ds.map Sv.val) := fun ds => by
    induction ds with
    | nil => rfl
    | cons d ds ih => show (lendA S _).map _ = _; rw [ih]; rfl
  have e3 : ∀ (ds : List D) (o : List (Option Sv)), back S (ds.map fun d => FL.Arg.tmp (.val d)) o = S := fun ds => by
    induction ds with
    | nil => exact fun o => rfl
    | cons d ds ih => exact fun o => ih o.tail
  refine w_call (by rw [e1]; exact List.nodup_nil) (e2 ds) (cs_mono h fun v o k => ?_)
  rw [e3]; exact k
theorem len_str {x : Str} (h : x.length ≤ 16777216) : bltD .len [.str x] = some (.val (.int x.length)) := by
  unfold bltD
  dsimp only
  rw [if_pos (line_le h)]
theorem in_alph {c : Nat} (h0 : 97 ≤ c) (h1 : c ≤ 122) : cmpD .isin (.str ⟨#[c]⟩) (.str alph) = some true := by
  show inD _ _ = _
  unfold inD
  show some (decide (c ∈ alph.cps.toList)) = _
  have : ∀ k : Nat, k < 26 → 97 + k ∈ alph.cps.toList := by decide +kernel
  have := this (c - 97) (by omega)
  rw [show 97 + (c - 97) = c by omega] at this
  rw [decide_eq_true this]
theorem bls_true {α : Type} : ∀ l : List α, blsOf (l.map fun _ => D.bl true) = some (l.map fun _ => true)
  | [] => rfl
  | _ :: l => by simp only [List.map_cons, blsOf, bls_true l, Option.map_some]
theorem all_true {α : Type} (l : List α) : bltD .all [.lst (l.map fun _ => D.bl true)] = some (.val (.bl true)) := by
  show (blsOf _).map _ = _
  rw [bls_true]
  simp
theorem nameOk_len {w : Str} (h : nameOk w = true) : 1 ≤ w.length ∧ w.length ≤ 8 ∧ ∀ c ∈ w.cps.toList, 97 ≤ c ∧ c ≤ 122 := by
  unfold nameOk at h
  simp only [Bool.and_eq_true, List.all_eq_true, decide_eq_true_eq] at h
  exact ⟨h.1.1, h.1.2, h.2⟩
theorem lane_str : PyData.strOk ("lane" : Str) = true := by decide +kernel
theorem kd_str (z : Bool) : PyData.strOk (kd z) = true := by cases z <;> decide +kernel
theorem kd_ne (z : Bool) : (kd z == ("lane" : Str)) = false := by cases z <;> decide +kernel
theorem kd_in (z : Bool) : cmpD .isin (.str (kd z)) (.tup [.str "zip", .str "then"]) = some true := by
  show inD _ _ = _
  unfold inD
  dsimp only
  rw [if_pos ⟨rfl, rfl⟩]
  cases z <;> decide +kernel
def Pl.size : Pl → Nat
  | .lane _ _ _ => 1
  | .node _ l r => l.size + r.size + 1
def Pl.nodes : Pl → Nat
  | .lane _ _ _ => 0
  | .node _ l r => l.nodes + r.nodes + 1
def Pl.hgt : Pl → Nat
  | .lane _ _ _ => 0
  | .node _ l r => max l.hgt r.hgt + 1
def sz (ps : List Pl) : Nat := (ps.map Pl.size).sum
def nds (ps : List Pl) : Nat := (ps.map Pl.nodes).sum
theorem nodes_lanes : ∀ p : Pl, p.lanes.length = p.nodes + 1
  | .lane _ _ _ => rfl
  | .node _ l r => by
    show (l.lanes ++ r.lanes).length = _
    rw [List.length_append, nodes_lanes l, nodes_lanes r]
    show _ = l.nodes + r.nodes + 1 + 1
    omega
theorem size_pos : ∀ p : Pl, 1 ≤ p.size
  | .lane _ _ _ => Nat.le_refl 1
  | .node _ _ _ => Nat.succ_le_succ (Nat.zero_le _)
theorem hgt_nodes : ∀ p : Pl, p.hgt ≤ p.nodes
  | .lane _ _ _ => Nat.le_refl 0
  | .node _ l r => by
    show max l.hgt r.hgt + 1 ≤ l.nodes + r.nodes + 1
    have := hgt_nodes l
    have := hgt_nodes r
    omega
theorem dep_pl : ∀ p : Pl, p.d.dep = p.hgt + 1
  | .lane w b s => rfl
  | .node z l r => by
    show max 0 (max l.d.dep (max r.d.dep 0)) + 1 = max l.hgt r.hgt + 1 + 1
    rw [dep_pl l, dep_pl r]
    omega
theorem ok_pl : ∀ p : Pl, (∀ l ∈ p.lanes, LnOk l) → p.d.ok = true
  | .lane w b s, h => by
    have hw := nameOk_str (h (w, b, s) (by simp [Pl.lanes])).1
    simp [Pl.d, laneD, D.ok, D.oks, lane_str, hw]
  | .node z l r, h => by
    have h1 := ok_pl l fun x hx => h x (by simp [Pl.lanes, hx])
    have h2 := ok_pl r fun x hx => h x (by simp [Pl.lanes, hx])
    simp [Pl.d, D.ok, D.oks, kd_str, h1, h2]
theorem pop_last {xs : List D} {x : D} : mthD .pop (xs ++ [x]) [] = some (x, xs) := by
  unfold mthD
  simp
theorem isin_strs {w : Str} {ws : List Str} (hw : PyData.strOk w = true) (h : ∀ v ∈ ws, PyData.strOk v = true) : cmpD .isin (.str w) (.lst (ws.map D.str)) = some (decide (w ∈ ws)) := in_strs hw h
theorem oks_pl {ps : List Pl} (h : ∀ l ∈ ps.flatMap Pl.lanes, LnOk l) : D.oks (ps.map Pl.d) = true := oks_all.mpr fun d hd => by
  obtain ⟨p, hp, rfl⟩ := List.mem_map.mp hd
  exact ok_pl p fun l hl => h l (List.mem_flatMap.mpr ⟨p, hp, hl⟩)
theorem nds_mem {p : Pl} : ∀ {ps : List Pl}, p ∈ ps → p.nodes ≤ nds ps
  | q :: ps, h => by
    show p.nodes ≤ q.nodes + nds ps
    rcases List.mem_cons.mp h with e | h
    · subst e; omega
    · have := nds_mem h; omega
theorem deps_pl {ps : List Pl} (h : nds ps ≤ 39) : D.deps (ps.map Pl.d) ≤ 63 := deps_le.mpr fun d hd => by
  obtain ⟨p, hp, rfl⟩ := List.mem_map.mp hd
  have := nds_mem hp
  have := hgt_nodes p
  rw [dep_pl]
  omega
theorem sz_app (a b : List Pl) : sz (a ++ b) = sz a + sz b := by unfold sz; rw [List.map_append, List.sum_append]
theorem nds_app (a b : List Pl) : nds (a ++ b) = nds a + nds b := by unfold nds; rw [List.map_append, List.sum_append]
theorem pl_ix0 (p : Pl) : ∃ k : Str, ixD p.d (.int 0) = some (.str k) ∧ PyData.strOk k = true ∧ (k == ("lane" : Str)) = (match p with | .lane _ _ _ => true | .node _ _ _ => false) := by
  cases p with
  | lane w b s => exact ⟨"lane", rfl, lane_str, beq_self_eq_true _⟩
  | node z l r => exact ⟨kd z, rfl, kd_str z, kd_ne z⟩
def sums (ls : List Ln) : Int := (ls.map (·.2.2)).sum
def Pl.sum (p : Pl) : Int := sums p.lanes
def F3 : D → List D
  | .tup [_, _, _, x] => [x]
  | _ => []
theorem flat_F3 : ∀ ls : List Ln, (ls.map laneD).flatMap F3 = (ls.map (·.2.2)).map D.int
  | [] => rfl
  | l :: ls => by rw [List.map_cons, List.flatMap_cons, flat_F3 ls]; rfl
theorem sum_F3 (ls : List Ln) : bltD .sum [.lst ((ls.map laneD).flatMap F3)] = some (.val (.int (sums ls))) := by
  rw [flat_F3]
  show (intsOf _).map _ = _
  rw [intsOf_ints]; rfl
theorem sums_app (a b : List Ln) : sums (a ++ b) = sums a + sums b := by unfold sums; rw [List.map_append, List.sum_append]
/-- how many of the first c cars come from the first of two -/
def fc (z : Bool) (a b c : Int) : Int := if z = true then min a (max ((c + 1) / 2) (c - b)) else min a c
theorem fc_zip {a b c : Int} : fc true a b c = min a (max ((c + 1) / 2) (c - b)) := rfl
theorem fc_then {a b c : Int} : fc false a b c = min a c := rfl
theorem fc_range {z : Bool} {a b c : Int} (ha : 0 ≤ a) (hb : 0 ≤ b) (h0 : 0 ≤ c) (h1 : c ≤ a + b) : 0 ≤ fc z a b c ∧ fc z a b c ≤ a ∧ 0 ≤ c - fc z a b c ∧ c - fc z a b c ≤ b := by
  cases z
  · rw [fc_then]; omega
  · rw [fc_zip]; omega
def swp (z : Bool) (a b c : Int) : Bool := z && decide (0 < c) && decide (fc z a b (c - 1) < fc z a b c)
def Pl.rest : Pl → Int → Pl
  | .lane w b s, m => .lane w (b + m) (s - m)
  | .node z l r, m => if swp z l.sum r.sum m = true then .node z (r.rest (m - fc z l.sum r.sum m)) (l.rest (fc z l.sum r.sum m)) else .node z (l.rest (fc z l.sum r.sum m)) (r.rest (m - fc z l.sum r.sum m))
/-- no lane has a negative size -/
def Pl.pos : Pl → Prop
  | .lane _ _ s => 0 ≤ s
  | .node _ l r => l.pos ∧ r.pos
theorem sum_node (z : Bool) (l r : Pl) : (Pl.node z l r).sum = l.sum + r.sum := sums_app l.lanes r.lanes
theorem sum_lane (w : Str) (b s : Int) : (Pl.lane w b s).sum = s := by simp [Pl.sum, sums, Pl.lanes]
theorem sum_pos : ∀ {p : Pl}, p.pos → 0 ≤ p.sum
  | .lane w b s, h => by rw [sum_lane]; exact h
  | .node z l r, h => by
    have := sum_pos h.1
    have := sum_pos h.2
    rw [sum_node]; omega
theorem rest_sum : ∀ {p : Pl} {m : Int}, p.pos → 0 ≤ m → m ≤ p.sum → (p.rest m).sum = p.sum - m ∧ (p.rest m).pos
  | .lane w b s, m, h, h0, h1 => by
    rw [sum_lane] at h1
    refine ⟨by show (Pl.lane w (b + m) (s - m)).sum = _; rw [sum_lane, sum_lane], ?_⟩
    show 0 ≤ s - m
    omega
  | .node z l r, m, h, h0, h1 => by
    rw [sum_node] at h1 ⊢
    obtain ⟨f1, f2, f3, f4⟩ := fc_range (z := z) (sum_pos h.1) (sum_pos h.2) h0 h1
    obtain ⟨a1, a2⟩ := rest_sum (m := fc z l.sum r.sum m) h.1 f1 f2
    obtain ⟨b1, b2⟩ := rest_sum (m := m - fc z l.sum r.sum m) h.2 f3 f4
    unfold Pl.rest
    split
    · rw [sum_node, a1, b1]; exact ⟨by omega, b2, a2⟩
    · rw [sum_node, a1, b1]; exact ⟨by omega, a2, b2⟩
/-- fc, said without min and max -/
theorem fc_is (a b c : Int) : ∃ t, fc true a b c = t ∧ t ≤ a ∧ (t = a ∨ (c + 1) / 2 ≤ t) ∧ (t = a ∨ c - b ≤ t) ∧ (t = a ∨ t = (c + 1) / 2 ∨ t = c - b) ∧ (t = a → a ≤ (c + 1) / 2 ∨ a ≤ c - b) := by
  rw [fc_zip]
  exact ⟨_, rfl, by omega, by omega, by omega, by omega, by omega⟩
/-- one car more, numbers alone -/
theorem fc_step {a b m : Int} (ha : 0 ≤ a) (hb : 0 ≤ b) (h0 : 0 ≤ m) (h2 : m + 1 ≤ a + b) :
    (swp true a b m = false → fc true a b m + fc true (a - fc true a b m) (b - (m - fc true a b m)) 1 = fc true a b (m + 1)) ∧
    (swp true a b m = true → fc true a b m + (1 - fc true (b - (m - fc true a b m)) (a - fc true a b m) 1) = fc true a b (m + 1)) := by
  unfold swp
  obtain ⟨t, e1, t1, t2, t3, t4, t5⟩ := fc_is a b m
  obtain ⟨s, e2, s1, s2, s3, s4, s5⟩ := fc_is a b (m - 1)
  obtain ⟨T, e3, T1, T2, T3, T4, T5⟩ := fc_is a b (m + 1)
  rw [e1, e2, e3]
  refine ⟨fun h => ?_, fun h => ?_⟩
  · obtain ⟨u, e5, u1, u2, u3, u4, u5⟩ := fc_is (a - t) (b - (m - t)) 1
    rw [e5]
    simp only [Bool.true_and, Bool.and_eq_false_iff, decide_eq_false_iff_not] at h
    rcases t4 with h1 | h1 | h1 <;> rcases T4 with h3 | h3 | h3 <;> omega
  · obtain ⟨u, e5, u1, u2, u3, u4, u5⟩ := fc_is (b - (m - t)) (a - t) 1
    rw [e5]
    simp only [Bool.true_and, Bool.and_eq_true, decide_eq_true_eq] at h
    rcases t4 with h1 | h1 | h1 <;> rcases T4 with h3 | h3 | h3 <;> omega
theorem swp_step {a b m : Int} (ha : 0 ≤ a) (hb : 0 ≤ b) (h0 : 0 ≤ m) (h2 : m + 1 ≤ a + b) :
    (swp true a b m = false → swp true (a - fc true a b m) (b - (m - fc true a b m)) 1 = swp true a b (m + 1)) ∧
    (swp true a b m = true → swp true (b - (m - fc true a b m)) (a - fc true a b m) 1 = !swp true a b (m + 1)) := by
  have st := fc_step ha hb h0 h2
  obtain ⟨f1, f2, f3, f4⟩ := fc_range (z := true) ha hb h0 (by omega : m ≤ a + b)
  have z0 : ∀ {x y : Int}, 0 ≤ x → 0 ≤ y → fc true x y (1 - 1) = 0 := fun {x y} hx hy => by rw [fc_zip]; omega
  have e0 : fc true a b (m + 1 - 1) = fc true a b m := by rw [show m + 1 - 1 = m by omega]
  refine ⟨fun h => ?_, fun h => ?_⟩
  · have q := st.1 h
    unfold swp
    rw [z0 (by omega) (by omega), e0, ← q, Bool.eq_iff_iff]
    simp only [Bool.true_and, Bool.and_eq_true, decide_eq_true_eq]
    omega
  · have q := st.2 h
    unfold swp
    rw [z0 (by omega) (by omega), e0, ← q, Bool.eq_iff_iff]
    have r := fc_range (z := true) (a := b - (m - fc true a b m)) (b := a - fc true a b m) (c := 1) (by omega) (by omega) (by omega) (by omega)
    simp only [Bool.true_and, Bool.and_eq_true, decide_eq_true_eq, Bool.not_eq_true', Bool.and_eq_false_iff, decide_eq_false_iff_not]
    omega
theorem fc_zero {z : Bool} {a b : Int} (ha : 0 ≤ a) (hb : 0 ≤ b) : fc z a b 0 = 0 := by
  cases z
  · rw [fc_then]; omega
  · rw [fc_zip]; omega
theorem rest_zero : ∀ {p : Pl}, p.pos → p.rest 0 = p
  | .lane w b s, h => by show Pl.lane w (b + 0) (s - 0) = _; rw [Int.add_zero, Int.sub_zero]
  | .node z l r, h => by
    unfold Pl.rest
    rw [fc_zero (sum_pos h.1) (sum_pos h.2), Int.sub_zero, rest_zero h.1, rest_zero h.2, if_neg]
    unfold swp
    simp
theorem rest_step : ∀ {p : Pl} {m : Int}, p.pos → 0 ≤ m → m + 1 ≤ p.sum → p.rest (m + 1) = (p.rest m).rest 1
  | .lane w b s, m, h, h0, h1 => by
    show Pl.lane w (b + (m + 1)) (s - (m + 1)) = Pl.lane w (b + m + 1) (s - m - 1)
    rw [Int.add_assoc, show s - (m + 1) = s - m - 1 by omega]
  | .node z l r, m, h, h0, h1 => by
    rw [sum_node] at h1
    have pa := sum_pos h.1
    have pb := sum_pos h.2
    obtain ⟨f1, f2, f3, f4⟩ := fc_range (z := z) pa pb h0 (by omega)
    have one : ∀ {q : Pl} {t u : Int}, (∀ m, 0 ≤ m → m + 1 ≤ q.sum → q.rest (m + 1) = (q.rest m).rest 1) → q.pos → 0 ≤ t → u = 0 ∨ u = 1 → t + u ≤ q.sum → (q.rest t).rest u = q.rest (t + u) := fun {q t u} ih hq ht hu hs => by
      rcases hu with e | e
      · subst e; rw [Int.add_zero, rest_zero (rest_sum hq ht (by omega)).2]
      · subst e; exact (ih t ht hs).symm
    have il := fun m (a : 0 ≤ m) (b : m + 1 ≤ l.sum) => rest_step h.1 a b
    have ir := fun m (a : 0 ≤ m) (b : m + 1 ≤ r.sum) => rest_step h.2 a b
    obtain ⟨sl, _⟩ := rest_sum h.1 f1 f2
    obtain ⟨sr, _⟩ := rest_sum h.2 f3 f4
    obtain ⟨g1, g2, g3, g4⟩ := fc_range (z := z) pa pb (show 0 ≤ m + 1 by omega) (by omega)
    cases z with
    | false =>
      have w0 : ∀ a b c, swp false a b c = false := fun a b c => by unfold swp; simp
      obtain ⟨u1, u2, u3, u4⟩ := fc_range (z := false) (a := l.sum - fc false l.sum r.sum m) (b := r.sum - (m - fc false l.sum r.sum m)) (c := 1) (by omega) (by omega) (by omega) (by omega)
      have e : fc false l.sum r.sum m + fc false (l.sum - fc false l.sum r.sum m) (r.sum - (m - fc false l.sum r.sum m)) 1 = fc false l.sum r.sum (m + 1) := by
        simp only [fc_then] at *; omega
      rw [show (Pl.node false l r).rest m = .node false (l.rest (fc false l.sum r.sum m)) (r.rest (m - fc false l.sum r.sum m)) by rw [Pl.rest, if_neg (by rw [w0]; simp)]]
      rw [Pl.rest, Pl.rest, w0, w0, sl, sr, one il h.1 f1 (by omega) (by omega), one ir h.2 f3 (by omega) (by omega), e, show m - fc false l.sum r.sum m + (1 - fc false (l.sum - fc false l.sum r.sum m) (r.sum - (m - fc false l.sum r.sum m)) 1) = m + 1 - fc false l.sum r.sum (m + 1) by omega]
    | true =>
      have st := fc_step pa pb h0 h1
      have sw := swp_step pa pb h0 h1
      cases q : swp true l.sum r.sum m with
      | false =>
        obtain ⟨u1, u2, u3, u4⟩ := fc_range (z := true) (a := l.sum - fc true l.sum r.sum m) (b := r.sum - (m - fc true l.sum r.sum m)) (c := 1) (by omega) (by omega) (by omega) (by omega)
        have e := st.1 q
        have e2 := sw.1 q
        rw [show (Pl.node true l r).rest m = .node true (l.rest (fc true l.sum r.sum m)) (r.rest (m - fc true l.sum r.sum m)) by rw [Pl.rest, if_neg (by rw [q]; simp)]]
        rw [Pl.rest, Pl.rest, sl, sr, e2, one il h.1 f1 (by omega) (by omega), one ir h.2 f3 (by omega) (by omega), e, show m - fc true l.sum r.sum m + (1 - fc true (l.sum - fc true l.sum r.sum m) (r.sum - (m - fc true l.sum r.sum m)) 1) = m + 1 - fc true l.sum r.sum (m + 1) by omega]
      | true =>
        obtain ⟨u1, u2, u3, u4⟩ := fc_range (z := true) (a := r.sum - (m - fc true l.sum r.sum m)) (b := l.sum - fc true l.sum r.sum m) (c := 1) (by omega) (by omega) (by omega) (by omega)
        have e := st.2 q
        have e2 := sw.2 q
        rw [show (Pl.node true l r).rest m = .node true (r.rest (m - fc true l.sum r.sum m)) (l.rest (fc true l.sum r.sum m)) by rw [Pl.rest, if_pos q]]
        rw [Pl.rest, Pl.rest, sl, sr, e2, one il h.1 f1 (by omega) (by omega), one ir h.2 f3 (by omega) (by omega), e, show m - fc true l.sum r.sum m + fc true (r.sum - (m - fc true l.sum r.sum m)) (l.sum - fc true l.sum r.sum m) 1 = m + 1 - fc true l.sum r.sum (m + 1) by omega]
        cases swp true l.sum r.sum (m + 1) <;> rfl
theorem rest_add {p : Pl} (h : p.pos) : ∀ (k : Nat) {m : Int}, 0 ≤ m → m + k ≤ p.sum → (p.rest m).rest k = p.rest (m + k)
  | 0, m, h0, h1 => by
    rw [show ((0 : Nat) : Int) = 0 from rfl, Int.add_zero, rest_zero (rest_sum h h0 (by omega)).2]
  | k + 1, m, h0, h1 => by
    have hr := rest_sum h h0 (show m ≤ p.sum by omega)
    have e : ((k + 1 : Nat) : Int) = (k : Int) + 1 := by omega
    rw [e, rest_step hr.2 (by omega) (by rw [hr.1]; omega), rest_add h k h0 (by omega), ← Int.add_assoc, rest_step h (by omega) (by omega)]
theorem then_str : PyData.strOk ("then" : Str) = true := by decide +kernel
theorem zip_str : PyData.strOk ("zip" : Str) = true := by decide +kernel
theorem kdt_zip : (kd true == ("zip" : Str)) = true := by decide +kernel
theorem kdf_zip : (kd false == ("zip" : Str)) = false := by decide +kernel
theorem kdt_then : (kd true == ("then" : Str)) = false := by decide +kernel
theorem kdf_then : (kd false == ("then" : Str)) = true := by decide +kernel
theorem lane_eq : (("lane" : Str) == "lane") = true := beq_self_eq_true _
theorem lanes_node (z : Bool) (l r : Pl) : (Pl.node z l r).lanes = l.lanes ++ r.lanes := rfl
theorem hgt_node (z : Bool) (l r : Pl) : (Pl.node z l r).hgt = max l.hgt r.hgt + 1 := rfl
theorem rest_lanes : ∀ (p : Pl) (m : Int), (p.rest m).lanes.length = p.lanes.length ∧ (∀ w, w ∈ (p.rest m).lanes.map (·.1) ↔ w ∈ p.lanes.map (·.1))
  | .lane w b s, m => ⟨rfl, fun _ => Iff.rfl⟩
  | .node z l r, m => by
    have h1 := rest_lanes l (fc z l.sum r.sum m)
    have h2 := rest_lanes r (m - fc z l.sum r.sum m)
    unfold Pl.rest
    split
    · refine ⟨by rw [lanes_node, lanes_node, List.length_append, List.length_append, h1.1, h2.1, Nat.add_comm], fun w => ?_⟩
      rw [lanes_node, lanes_node, List.map_append, List.map_append, List.mem_append, List.mem_append, h1.2, h2.2, Or.comm]
    · refine ⟨by rw [lanes_node, lanes_node, List.length_append, List.length_append, h1.1, h2.1], fun w => ?_⟩
      rw [lanes_node, lanes_node, List.map_append, List.map_append, List.mem_append, List.mem_append, h1.2, h2.2]
theorem rest_hgt : ∀ (p : Pl) (m : Int), (p.rest m).hgt = p.hgt
  | .lane w b s, m => rfl
  | .node z l r, m => by
    have h1 := rest_hgt l (fc z l.sum r.sum m)
    have h2 := rest_hgt r (m - fc z l.sum r.sum m)
    unfold Pl.rest
    split
    · rw [hgt_node, hgt_node, h1, h2, Nat.max_comm]
    · rw [hgt_node, hgt_node, h1, h2]
theorem rest_nodup : ∀ (p : Pl) (m : Int), (p.lanes.map (·.1)).Nodup → ((p.rest m).lanes.map (·.1)).Nodup
  | .lane w b s, m, h => h
  | .node z l r, m, h => by
    have h : ((l.lanes ++ r.lanes).map (·.1)).Nodup := h
    rw [List.map_append] at h
    obtain ⟨n1, n2, n3⟩ := List.nodup_append.mp h
    have h1 := rest_nodup l (fc z l.sum r.sum m) n1
    have h2 := rest_nodup r (m - fc z l.sum r.sum m) n2
    have m1 := (rest_lanes l (fc z l.sum r.sum m)).2
    have m2 := (rest_lanes r (m - fc z l.sum r.sum m)).2
    unfold Pl.rest
    split
    · rw [lanes_node, List.map_append]
      exact List.nodup_append.mpr ⟨h2, h1, fun a ha b hb e => n3 b ((m1 b).mp hb) a ((m2 a).mp ha) e.symm⟩
    · rw [lanes_node, List.map_append]
      exact List.nodup_append.mpr ⟨h1, h2, fun a ha b hb e => n3 a ((m1 a).mp ha) b ((m2 b).mp hb) e⟩
theorem pos_of : ∀ {p : Pl}, (∀ l ∈ p.lanes, LnOk l) → p.pos
  | .lane w b s, h => (h (w, b, s) (by simp [Pl.lanes])).2.2
  | .node z l r, h => ⟨pos_of fun x hx => h x (by simp [Pl.lanes, hx]), pos_of fun x hx => h x (by simp [Pl.lanes, hx])⟩
/-- what is left is of good lanes, no lane reaching further -/
theorem rest_good : ∀ {p : Pl} {m k : Int}, (∀ l ∈ p.lanes, LnOk l ∧ l.2.1 + l.2.2 ≤ k) → 0 ≤ m → m ≤ p.sum → ∀ l ∈ (p.rest m).lanes, LnOk l ∧ l.2.1 + l.2.2 ≤ k
  | .lane w b s, m, k, h, h0, h1 => fun l hl => by
    have g := h (w, b, s) (by simp [Pl.lanes])
    rw [sum_lane] at h1
    have e : l = (w, b + m, s - m) := by simpa [Pl.rest, Pl.lanes] using hl
    subst e
    obtain ⟨⟨g1, g2, g3⟩, g4⟩ := g
    dsimp only at g2 g3 g4
    exact ⟨⟨g1, by show 0 ≤ b + m; omega, by show 0 ≤ s - m; omega⟩, by show b + m + (s - m) ≤ k; omega⟩
  | .node z l r, m, k, h, h0, h1 => by
    rw [sum_node] at h1
    have hl := fun x (hx : x ∈ l.lanes) => h x (by simp [Pl.lanes, hx])
    have hr := fun x (hx : x ∈ r.lanes) => h x (by simp [Pl.lanes, hx])
    have pl := sum_pos (pos_of fun x hx => (hl x hx).1)
    have pr := sum_pos (pos_of fun x hx => (hr x hx).1)
    obtain ⟨f1, f2, f3, f4⟩ := fc_range (z := z) pl pr h0 h1
    have h1 := rest_good (p := l) hl f1 f2
    have h2 := rest_good (p := r) hr f3 f4
    intro x hx
    unfold Pl.rest at hx
    split at hx
    · rcases List.mem_append.mp (by rwa [lanes_node] at hx) with q | q
      · exact h2 x q
      · exact h1 x q
    · rcases List.mem_append.mp (by rwa [lanes_node] at hx) with q | q
      · exact h1 x q
      · exact h2 x q
theorem rest_ok {p : Pl} {m k : Int} (h : LsOk p.lanes) (hk : ∀ l ∈ p.lanes, l.2.1 + l.2.2 ≤ k) (h0 : 0 ≤ m) (h1 : m ≤ p.sum) : LsOk (p.rest m).lanes ∧ ∀ l ∈ (p.rest m).lanes, l.2.1 + l.2.2 ≤ k := by
  have g := rest_good (fun l hl => ⟨h.ok l hl, hk l hl⟩) h0 h1
  have e := (rest_lanes p m).1
  exact ⟨⟨fun l hl => (g l hl).1, rest_nodup p m h.nd, by rw [e]; exact h.few, by rw [e]; exact h.one⟩, fun l hl => (g l hl).2⟩
theorem w_callO {F : List Sv → FL.CR} {S : FS} {P : FL.Arg → FS → Prop} {ds : List D} {es : List D} (h : CS (F (.own ds :: es.map Sv.val)) (fun r _ => P (.tmp r) S)) : Sat (calR F (.tmp (.own ds) :: es.map fun d => FL.Arg.tmp (.val d)) S) P := by
  have e1 : ∀ ds : List D, refsOf (ds.map fun d => FL.Arg.tmp (.val d)) = [] := fun ds => by
    induction ds with
    | nil => rfl
    | cons d ds ih => exact ih
  have e2 : ∀ ds : List D, lendA S (ds.map fun d => FL.Arg.tmp (.val d)) = some (ds.map Sv.val) := fun ds => by
    induction ds with
    | nil => rfl
    | cons d ds ih => show (lendA S _).map _ = _; rw [ih]; rfl
  have e3 : ∀ (ds : List D) (o : List (Option Sv)), back S (ds.map fun d => FL.Arg.tmp (.val d)) o = S := fun ds => by
    induction ds with
    | nil => exact fun o => rfl
    | cons d ds ih => exact fun o => ih o.tail
  refine w_call (ss := .own ds :: es.map Sv.val) (by show (refsOf (es.map fun d => FL.Arg.tmp (.val d))).Nodup; rw [e1]; exact List.nodup_nil) (by show (lendA S _).map _ = _; rw [e2]; rfl) (cs_mono h fun v o k => ?_)
  have e4 : back S (.tmp (.own ds) :: es.map fun d => FL.Arg.tmp (.val d)) o = S := e3 es o.tail
  rw [e4]; exact k
/-- a limit of all numbers of cars -/
def lim : Int := 100000000000000000000000000000000000000000
theorem lim_big : 100 * big ≤ lim := by decide
theorem lim_2 : lim < 2 ^ 200 := by decide
theorem mul2_ok {x : Int} (h0 : 0 ≤ x) (h : x ≤ lim) : (2 : Int).natAbs.log2 + x.natAbs.log2 < 1000000 := by
  have := log_lt (abs_lt (k := 200) h0 (Int.lt_of_le_of_lt h lim_2)) (by decide)
  have e : (2 : Int).natAbs.log2 = 1 := by decide
  omega
/-! ### what is shown of a plan -/
structure PlOk (p : Pl) : Prop where
  ok : LsOk p.lanes
  le : ∀ l ∈ p.lanes, l.2.1 + l.2.2 ≤ 2 * big
theorem PlOk.rest {p : Pl} (h : PlOk p) {m : Int} (h0 : 0 ≤ m) (h1 : m ≤ p.sum) : PlOk (p.rest m) :=
  have g := rest_ok h.ok h.le h0 h1
  ⟨g.1, g.2⟩
theorem sml_int {x : Int} (h0 : 0 ≤ x) (h : x ≤ lim) : (D.int x).sml = true := by
  simp only [D.sml, decide_eq_true_eq]
  have := log_lt (abs_lt (k := 200) h0 (Int.lt_of_le_of_lt h lim_2)) (by decide)
  omega
theorem sml_pl : ∀ {p : Pl}, (∀ l ∈ p.lanes, LnOk l ∧ l.2.1 + l.2.2 ≤ 2 * big) → p.d.sml = true
  | .lane w b s, h => by
    obtain ⟨⟨_, h1, h2⟩, h3⟩ := h (w, b, s) (by simp [Pl.lanes])
    dsimp only at h1 h2 h3
    have lb := lim_big
    have s1 := sml_int h1 (by omega)
    have s2 := sml_int h2 (by omega)
    show (D.tup [.str "lane", .str w, .int b, .int s]).sml = true
    simp only [D.sml, D.smls] at s1 s2 ⊢
    rw [s1, s2]; rfl
  | .node z l r, h => by
    have h1 := sml_pl (p := l) fun x hx => h x (by simp [Pl.lanes, hx])
    have h2 := sml_pl (p := r) fun x hx => h x (by simp [Pl.lanes, hx])
    show (D.tup [.str (kd z), l.d, r.d]).sml = true
    simp only [D.sml, D.smls, h1, h2, Bool.and_self]
theorem kd_len (z : Bool) : (kd z).length ≤ 4 := by cases z <;> decide +kernel
theorem wt_pl : ∀ {p : Pl}, (∀ l ∈ p.lanes, LnOk l) → p.d.wt ≤ 4100 * p.size
  | .lane w b s, h => by
    have h1 := nameOk_len (h (w, b, s) (by simp [Pl.lanes])).1
    dsimp only at h1
    show (D.tup [.str "lane", .str w, .int b, .int s]).wt ≤ 4100 * 1
    simp only [D.wt, D.wts]
    have e : ("lane" : Str).length = 4 := by decide +kernel
    omega
  | .node z l r, h => by
    have h1 := wt_pl (p := l) fun x hx => h x (by simp [Pl.lanes, hx])
    have h2 := wt_pl (p := r) fun x hx => h x (by simp [Pl.lanes, hx])
    show (D.tup [.str (kd z), l.d, r.d]).wt ≤ 4100 * (l.size + r.size + 1)
    simp only [D.wt, D.wts]
    have e := kd_len z
    omega
theorem size_nodes (p : Pl) : p.size = 2 * p.nodes + 1 := by
  induction p with
  | lane => rfl
  | node z l r h1 h2 => show l.size + r.size + 1 = 2 * (l.nodes + r.nodes + 1) + 1; omega
theorem dep_ok {p : Pl} (h : p.lanes.length ≤ 40) : p.d.dep ≤ 64 := by
  rw [dep_pl]
  have := hgt_nodes p
  have := nodes_lanes p
  omega
theorem repr_pl {p : Pl} (h : PlOk p) : bltD .repr [p.d] = some (.val (.str (toPy p.d).shown)) := by
  refine repr_at (sml_pl fun l hl => ⟨h.ok.ok l hl, h.le l hl⟩) (ok_pl p h.ok.ok) (dep_ok h.ok.few) ?_
  have := wt_pl (p := p) h.ok.ok
  have := size_nodes p
  have := nodes_lanes p
  have := h.ok.few
  omega
theorem ne_pl {p : Pl} (h : PlOk p) : cmpD .ne p.d p.d = some false := ne_self (ok_pl p h.ok.ok) (dep_ok h.ok.few)
theorem eq_pl {p : Pl} (h : PlOk p) : cmpD .eq p.d p.d = some true := by
  show eqD _ _ = _
  exact eqD_self (ok_pl p h.ok.ok) (dep_ok h.ok.few)
theorem sums_le : ∀ (ls : List Ln), (∀ l ∈ ls, l.2.2 ≤ big) → sums ls ≤ ls.length * big
  | [], _ => by simp [sums]
  | l :: ls, h => by
    have h1 := h l (by simp)
    have h2 := sums_le ls fun x hx => h x (List.mem_cons_of_mem _ hx)
    have e : sums (l :: ls) = l.2.2 + sums ls := by simp [sums]
    have e2 : (((l :: ls).length : Nat) : Int) * big = ls.length * big + big := by
      rw [List.length_cons, Int.natCast_add, Int.add_mul]; simp
    omega
theorem sum_lim {p : Pl} (h : LsOk p.lanes) (k : ∀ l ∈ p.lanes, LnSm l) : p.sum ≤ 40 * big := by
  have h1 := sums_le p.lanes fun l hl => (k l hl).2
  have h2 : ((p.lanes.length : Nat) : Int) * big ≤ 40 * big := Int.mul_le_mul_of_nonneg_right (by have := h.few; omega) (by decide)
  exact Int.le_trans h1 h2
theorem PlOk.of {p : Pl} (h : LsOk p.lanes) (k : ∀ l ∈ p.lanes, LnSm l) : PlOk p := ⟨h, fun l hl => by have := (k l hl).1; have := (k l hl).2; omega⟩
theorem zero_sizes : ∀ {ls : List Ln}, (∀ l ∈ ls, 0 ≤ l.2.2) → sums ls = 0 → ∀ l ∈ ls, l.2.2 = 0
  | l :: ls, h, e, x, hx => by
    have e1 : sums (l :: ls) = l.2.2 + sums ls := by simp [sums]
    have h1 := h l (by simp)
    have h2 : 0 ≤ sums ls := by
      have : ∀ (ks : List Ln), (∀ l ∈ ks, 0 ≤ l.2.2) → 0 ≤ sums ks := by
        intro ks
        induction ks with
        | nil => intro _; simp [sums]
        | cons k ks ih =>
          intro h
          have := ih fun y hy => h y (List.mem_cons_of_mem _ hy)
          have := h k (by simp)
          have e : sums (k :: ks) = k.2.2 + sums ks := by simp [sums]
          omega
      exact this ls fun y hy => h y (List.mem_cons_of_mem _ hy)
    rcases List.mem_cons.mp hx with q | q
    · subst q; omega
    · exact zero_sizes (fun y hy => h y (List.mem_cons_of_mem _ hy)) (by omega) x q
theorem lt_lim {m : Int} (h : m ≤ lim + 1) : m < 2 ^ 8000 := Int.lt_of_le_of_lt h (by decide)
theorem cs_out {r : FL.CR} {w : Sv} (h : CS r fun v _ => v = w) : ∃ outs, r = .ok w outs := by
  cases r with
  | ok v o => exact ⟨o, by rw [show v = w from h]⟩
  | ex k o => exact h.elim
  | no => exact h.elim
theorem oks_ints (ns : List Int) : D.oks (ns.map D.int) = true := oks_all.mpr fun d hd => by
  obtain ⟨x, _, rfl⟩ := List.mem_map.mp hd
  rfl
theorem deps_ints (ns : List Int) : D.deps (ns.map D.int) ≤ 63 := deps_le.mpr fun d hd => by
  obtain ⟨x, _, rfl⟩ := List.mem_map.mp hd
  exact Nat.zero_le _
end Law

set_option maxRecDepth 100000
set_option maxHeartbeats 4000000
set_option exponentiation.threshold 10000
namespace Law
open PySem PySem.Spec PyProof.Rows L2 FL
local macro_rules | `(tactic| walk_at "W") => `(tactic| (repeat (first | with_reducible refine ret_tmp ?_ | with_reducible refine p_nil ?_ | with_reducible refine s_cons ?_ | with_reducible refine s_nil ?_ | with_reducible refine s_ret ?_ | with_reducible refine s_ifs ?_ | with_reducible refine s_sub ?_ | with_reducible refine s_exp ?_ | with_reducible refine s_parT ?_ | with_reducible refine s_tgt ?_ | with_reducible refine s_setLc ?_ | with_reducible refine s_sk ?_ | with_reducible refine s_brk ?_ | with_reducible refine s_cnt ?_ | with_reducible refine e_cs ?_ | with_reducible refine e_gl ?_ | with_reducible refine e_bin ?_ | with_reducible refine e_ix ?_ | with_reducible refine e_cut ?_ | with_reducible refine e_neg ?_ | with_reducible refine e_ite ?_ | with_reducible refine e_tupT ?_ | with_reducible refine e_lstT ?_ | with_reducible refine e_stl ?_ | with_reducible refine u_nil ?_ | with_reducible refine u_val ?_ | with_reducible refine u_own ?_ | with_reducible refine a_cons ?_ | with_reducible refine a_nil ?_ | with_reducible refine e_bo ?_ | with_reducible refine b_one ?_ | with_reducible refine b_and ?_ | with_reducible refine b_or ?_ | with_reducible refine e_notV ?_ | with_reducible refine e_cmpV ?_ | with_reducible refine e_chnV ?_ | with_reducible refine t_cmp ?_ | with_reducible refine t_chn ?_ | with_reducible refine t_not ?_ | with_reducible refine t_tru ?_ | with_reducible refine t_bo ?_ | with_reducible refine w_one ?_ | with_reducible refine w_and ?_ | with_reducible refine w_or ?_ | with_reducible refine e_blt ?_ | with_reducible refine e_isi ?_ | with_reducible refine e_cal ?_ | with_reducible refine e_lrg ?_ | with_reducible refine e_u1 ?_ | with_reducible refine e_d0t ?_ | with_reducible refine e_d0k ?_ | with_reducible refine e_d1 ?_ | with_reducible refine e_rpl ?_ | with_reducible refine e_sct ?_ | with_reducible refine e_idx ?_ | with_reducible refine e_dgv ?_ | with_reducible refine e_fd ?_ | with_reducible refine e_dls ?_ | with_reducible refine e_dgf ?_ | with_reducible refine s_kput ?_ | with_reducible refine s_dput ?_ | with_reducible refine s_dpt ?_ | with_reducible refine t_ite ?_ | with_reducible refine e_rep ?_ | with_reducible refine o_nil ?_ | with_reducible refine o_some ?_ | with_reducible refine i_ex ?_ | with_reducible refine i_r1 ?_ | with_reducible refine i_r2 ?_ | with_reducible refine i_enu ?_ | with_reducible refine c_nil ?_ | with_reducible refine c_one ?_ | with_reducible refine w_ifT ?_ | with_reducible refine w_ifF ?_ | with_reducible refine w_iteT ?_ | with_reducible refine w_iteF ?_ | with_reducible refine if_t ?_ | with_reducible refine if_f ?_ | (with_reducible refine s_setT ?_) | ((with_reducible apply e_sl); exact rfl) | ((with_reducible apply e_so); exact rfl) | ((with_reducible apply s_aug); exact rfl) | ((with_reducible apply e_mth); exact rfl) | ((with_reducible apply t_dcm); exact rfl; exact rfl) | ((with_reducible apply e_ext); exact rfl) | ((with_reducible apply w_addI); exact rfl; exact rfl) | ((with_reducible apply w_subI); exact rfl; exact rfl) | ((with_reducible apply w_pow); exact rfl; exact rfl; exact (by decide)) | ((with_reducible apply w_mod); exact rfl; exact rfl; exact (by decide)) | ((with_reducible apply w_fdiv); exact rfl; exact rfl; exact (by decide)) | ((with_reducible apply ret_own); exact rfl; exact rfl; try simp only [FL.st, List.set, Int.reduceToNat, List.set_cons_zero, List.set_cons_succ]) | ((with_reducible apply p_cons); exact rfl; exact lt_ble rfl; try simp only [FL.st, List.set, Int.reduceToNat, List.set_cons_zero, List.set_cons_succ]) | ((with_reducible show And _ _); refine ⟨line_le (Nat.le_of_ble_eq_true rfl), ?_⟩) | ((with_reducible show And _ _); refine ⟨rfl, lt_ble rfl, ?_⟩; try simp only [FL.st, List.set, Int.reduceToNat, List.set_cons_zero, List.set_cons_succ]) | ((with_reducible show Exists _); refine ⟨_, _, _, rfl, rfl, eq_int, ?_⟩) | ((with_reducible show Exists _); refine ⟨_, _, _, rfl, rfl, ne_int, ?_⟩) | ((with_reducible show Exists _); refine ⟨_, _, _, rfl, rfl, ?_⟩) | ((with_reducible show Exists _); refine ⟨_, _, _, rfl, rfl, rfl, ?_⟩) | ((with_reducible show Exists _); refine ⟨_, _, rfl, rfl, ?_⟩) | ((with_reducible show Exists _); refine ⟨_, rfl, ?_⟩) | ((with_reducible show Exists _); refine ⟨_, rfl, rfl, ?_⟩; try simp only [FL.st, List.set, Int.reduceToNat, List.set_cons_zero, List.set_cons_succ]) | ((with_reducible show Exists _); refine ⟨_, _, _, _, _, rfl, rfl, rfl, rfl, ?_⟩; try simp only [FL.st, List.set, Int.reduceToNat, List.set_cons_zero, List.set_cons_succ]) | ((with_reducible show Exists _); refine ⟨_, _, _, _, _, rfl, rfl, rfl, ?_⟩; try simp only [FL.st, List.set, Int.reduceToNat, List.set_cons_zero, List.set_cons_succ]) | ((with_reducible show And _ _); refine ⟨rfl, ?_⟩) | refine if_f ?_ | refine if_t ?_)))
theorem right_ok (z : Str) : callF (fdsOf R) 2000 69 16 [.val (.str z)] = .ok (.val (.bl true)) [some (.val (.str z))] := by kernel_rfl
theorem s_saug {cl : Nat → List Sv → FL.CR} {L : List Bool} {nw : Nat} {S : FS} {Q : Po} {i k : Nat} {n a : Int} {ds : List D} (h1 : gt S i = some (.own (.lst ds))) (h2 : ds[k]? = some (.int a)) (h : Q.nx (FL.st S i (some (.own (.lst (ds.set k (.int (a + n)))))))) :
    WS (evS cl L nw (.saug i k n) S) Q := by
  show WS (sSaug i k n S) Q
  unfold sSaug
  rw [h1]
  dsimp only
  rw [h2]
  exact h
theorem draw_ok {nw n : Nat} {ds : List D} {m : Int} (hp : ∃ a b : Int, ds = [.int a, .int b] ∧ 0 ≤ a ∧ 0 ≤ b ∧ b < 1000000) (hm : 0 < m) (hm2 : m < 1000) : CS (callF (fdsOf R) nw (n + 1) 13 [.own ds, .val (.int m)])
    fun v o => ∃ (r : Int) (ds' : List D), v = .val (.int r) ∧ 0 ≤ r ∧ r < m ∧ (∀ b0 : Int, ds[1]? = some (.int b0) → ∃ a b : Int, ds' = [D.int a, .int b] ∧ 0 ≤ a ∧ 0 ≤ b ∧ b = b0 + 1) ∧ o = [some (.own ds'), some (.val (.int m))] := by
  obtain ⟨a, b, rfl, ha, hb, hb2⟩ := hp
  have hml : 0 < m ∧ m.natAbs.log2 < 9000 := ⟨hm, Nat.lt_trans (log_lt (x := m.natAbs) (k := 20) (by omega) (by decide)) (by decide)⟩
  refine cs_at [some (.own (.lst [.int a, .int b])), some (.val (.int m)), none, none] [true, false] b__law_draw (d := d__law_draw) (by rfl) (by rfl) (by rfl) (by rfl) (by rfl) ?_
  unfold b__law_draw
  refine s_cons (s_saug rfl rfl ?_)
  try simp only [FL.st, List.set, Int.reduceToNat, List.set_cons_zero, List.set_cons_succ]
  walk_at "W"
  refine if_dec (fun h => ?_) fun h => ?_
  · walk_at "W"
    refine w_mod rfl rfl hm ?_
    walk_at "W"
    refine w_fdiv rfl rfl hml ?_
    walk_at "W"
    exact ⟨_, _, rfl, Int.emod_nonneg _ (by omega), Int.emod_lt_of_pos _ hm, fun b0 e0 => ⟨a / m, b + 1, rfl, Int.ediv_nonneg ha (by omega), by omega, by cases e0; rfl⟩, rfl⟩
  · have l1 : (104729 : Int).natAbs.log2 + (b + 1).natAbs.log2 < 1000000 := by
      have := log_lt (x := (b + 1).natAbs) (k := 21) (by omega) (by decide)
      have e : (104729 : Int).natAbs.log2 = 16 := by decide
      omega
    have l2 : (40692 : Int).natAbs.log2 + (b + 1).natAbs.log2 < 1000000 := by
      have := log_lt (x := (b + 1).natAbs) (k := 21) (by omega) (by decide)
      have e : (40692 : Int).natAbs.log2 = 15 := by decide
      omega
    have sq : ∀ y : Int, 0 ≤ y → y < 2147483648 → y.natAbs.log2 + y.natAbs.log2 < 1000000 := fun y y0 y1 => by
      have := log_lt (x := y.natAbs) (k := 31) (by omega) (by decide)
      omega
    walk_at "W"
    refine w_mul rfl rfl l1 ?_
    walk_at "W"
    have q0 := Int.emod_nonneg (a % 2147483629 + 104729 * (b + 1) + 1) (b := 2147483587) (by decide)
    have q1 := Int.emod_lt_of_pos (a % 2147483629 + 104729 * (b + 1) + 1) (b := 2147483587) (by decide)
    generalize (a % 2147483629 + 104729 * (b + 1) + 1) % 2147483587 = y at q0 q1
    refine w_mul rfl rfl (sq y q0 (by omega)) ?_
    walk_at "W"
    refine w_mul rfl rfl l2 ?_
    walk_at "W"
    have p0 := Int.emod_nonneg (y * y % 2147483587 + 40692 * (b + 1)) (b := 2147483563) (by decide)
    have p1 := Int.emod_lt_of_pos (y * y % 2147483587 + 40692 * (b + 1)) (b := 2147483563) (by decide)
    generalize (y * y % 2147483587 + 40692 * (b + 1)) % 2147483563 = u at p0 p1
    refine w_mul rfl rfl (sq u p0 (by omega)) ?_
    walk_at "W"
    refine w_mod rfl rfl hm ?_
    walk_at "W"
    exact ⟨_, _, rfl, Int.emod_nonneg _ (by omega), Int.emod_lt_of_pos _ hm, fun b0 e0 => ⟨a, b + 1, rfl, ha, by omega, by cases e0; rfl⟩, rfl⟩
theorem draw_call {nw n i : Nat} {S : FS} {ds : List D} {m : Int} {P : FL.Arg → FS → Prop} (hS : gt S i = some (.own ds)) (hp : ∃ a b : Int, ds = [.int a, .int b] ∧ 0 ≤ a ∧ 0 ≤ b ∧ b < 1000000) (hm : 0 < m) (hm2 : m < 1000)
    (h : ∀ (r : Int) (ds' : List D), 0 ≤ r → r < m → (∀ b0 : Int, ds[1]? = some (.int b0) → ∃ a b : Int, ds' = [D.int a, .int b] ∧ 0 ≤ a ∧ 0 ≤ b ∧ b = b0 + 1) → P (.tmp (.val (.int r))) (FL.st S i (some (.own ds')))) : Sat (calR (callF (fdsOf R) nw (n + 1) 13) (permA [0, 1] ([.ref i, .tmp (.val (.int m))] ++ [])) S) P := by
  refine w_call (ss := [.own ds, .val (.int m)]) (by show ([i] : List Nat).Nodup; simp) ?_ (cs_mono (draw_ok hp hm hm2) fun v o ⟨r, ds', e1, h1, h2, h3, e2⟩ => ?_)
  · show (gt S i).bind (fun s => (some [Sv.val (.int m)]).map (s :: ·)) = _
    rw [hS]; rfl
  · subst e1; subst e2
    have e : back S (permA [0, 1] ([.ref i, .tmp (.val (.int m))] ++ [])) [some (.own ds'), some (.val (.int m))] = FL.st S i (some (.own ds')) := by
      show (if isOwn S i = true then FL.st S i (some (.own ds')) else S) = _
      rw [if_pos (by unfold isOwn; rw [hS])]
    rw [e]
    exact h r ds' h1 h2 h3
theorem bag_ok {nw n : Nat} {c k : Int} (hk : 0 ≤ k) (hk2 : k < 1000) : CS (callF (fdsOf R) nw (n + 1) 12 [.val (.int c), .val (.int k)]) fun v _ => ∃ a b : Int, v = .own (.lst [.int a, .int b]) ∧ 0 ≤ a ∧ 0 ≤ b ∧ b < 100000 := by
  have l1 : (37 : Int).natAbs.log2 + k.natAbs.log2 < 1000000 := by
    have := log_lt (x := k.natAbs) (k := 10) (by omega) (by decide)
    have e : (37 : Int).natAbs.log2 = 5 := by decide
    omega
  refine cs_at [some (.val (.int c)), some (.val (.int k))] [false, false] b__law_bag (d := d__law_bag) (by rfl) (by rfl) (by rfl) (by rfl) (by rfl) ?_
  unfold b__law_bag
  walk_at "W"
  refine if_dec (fun h => ?_) fun h => ?_
  · walk_at "W"
    refine w_mul rfl rfl l1 ?_
    walk_at "W"
    exact ⟨_, _, rfl, by omega, by omega, by omega⟩
  · walk_at "W"
    refine w_mul rfl rfl l1 ?_
    walk_at "W"
    exact ⟨_, _, rfl, by omega, by omega, by omega⟩
theorem sign_ok {r : Int} (h0 : 0 ≤ r) (h1 : r < 4) : ∃ s : Str, ixD (.str "a| ~") (.int r) = some (.str s) ∧ s.length = 1 := by
  have : r = 0 ∨ r = 1 ∨ r = 2 ∨ r = 3 := by omega
  rcases this with rfl | rfl | rfl | rfl
  · exact ⟨⟨#[97]⟩, by kernel_rfl, by kernel_rfl⟩
  · exact ⟨⟨#[124]⟩, by kernel_rfl, by kernel_rfl⟩
  · exact ⟨⟨#[32]⟩, by kernel_rfl, by kernel_rfl⟩
  · exact ⟨⟨#[126]⟩, by kernel_rfl, by kernel_rfl⟩
theorem oki : ∀ ns : List Int, D.oks (ns.map D.int) = true
  | [] => rfl
  | n :: ns => by simp only [List.map_cons, D.oks, D.ok, oki ns, Bool.and_self]
theorem depi : ∀ ns : List Int, D.deps (ns.map D.int) ≤ 63
  | [] => by simp [D.deps]
  | n :: ns => by have := depi ns; simp only [List.map_cons, D.deps, D.dep]; omega
theorem rng_ints (a : Int) (n : Nat) : rngD a n = ((List.range n).map fun i : Nat => a + (i : Int)).map D.int := by
  unfold rngD
  rw [List.map_map]
  rfl
def HD (x0 : D) (cs : List Int) (L : List D) (S : FS) : Prop := ∃ (is : List Int) (x2 x3 : Option Sv), L = is.map D.int ∧ (∀ i ∈ is, 0 ≤ i ∧ i < (cs.length : Int)) ∧ S = [some (.val x0), some (.own (cs.map D.int)), x2, x3]
theorem tail_ok (x0 : D) (cs : List Int) (hl : cs.length ≤ 13) {Q : Po} (hQ : ∀ S, Q.rt (.val (.bl true)) S) : WS (evSs (callF (fdsOf R) 2000 69) [false] 2000 (dropS 1 b_law) [some (.val x0), some (.own (cs.map D.int)), none, none]) Q := by
  unfold b_law
  simp only [dropS]
  walk_at "W"
  refine s_for (HD x0 cs) ?_ ?_ ?_
  · walk_at "W"
    have el : (((cs.map D.int).length : Nat) : Int) = cs.length := by rw [List.length_map]
    rw [el]
    refine ⟨by omega, ?_⟩
    refine ⟨_, _, rfl, ?_⟩
    refine ⟨_, none, none, rng_ints _ _, fun i hi => ?_, rfl⟩
    obtain ⟨a, ha, rfl⟩ := List.mem_map.mp hi
    have := List.mem_range.mp ha
    omega
  · intro d L S ⟨is, x2, x3, eL, hi, eS⟩
    subst eS
    cases is with
    | nil => cases eL
    | cons kk is =>
    cases eL
    obtain ⟨k0, k1⟩ := hi kk (by simp)
    have hi2 := fun i h => hi i (List.mem_cons_of_mem _ h)
    refine ⟨_, rfl, ?_⟩
    try simp only [FL.st, List.set, Int.reduceToNat, List.set_cons_zero, List.set_cons_succ]
    walk_at "W"
    obtain ⟨v, ev⟩ : ∃ v : Int, ixD (.lst (cs.map D.int)) (.int kk) = some (.int v) := by
      have h1 : kk.toNat < cs.length := by omega
      refine ⟨cs[kk.toNat], ?_⟩
      show atI (cs.map D.int) kk = _
      unfold atI ixN
      rw [if_pos k0, if_pos (by rw [List.length_map]; exact k1)]
      show (cs.map D.int)[kk.toNat]? = _
      rw [List.getElem?_map, List.getElem?_eq_getElem h1]
      rfl
    refine ⟨_, _, _, rfl, rfl, ev, ?_⟩
    walk_at "W"
    refine w_callV (ds := [.int v, .int kk]) (cs_mono (bag_ok k0 (by omega)) fun r _ ⟨a, b, e, a0, b0, b1⟩ => ?_)
    subst e
    walk_at "W"
    refine draw_call rfl ⟨a, b, rfl, a0, b0, by omega⟩ (by decide) (by decide) fun r ds1 r0 r1 p1 => ?_
    obtain ⟨a2, b2, rfl, c0, c1, c2⟩ := p1 b rfl
    try simp only [FL.st, List.set, Int.reduceToNat, List.set_cons_zero, List.set_cons_succ]
    obtain ⟨z, ez, lz⟩ := sign_ok r0 r1
    refine ⟨_, _, _, rfl, rfl, ez, ?_⟩
    walk_at "W"
    refine draw_call rfl ⟨a2, b2, rfl, c0, c1, by omega⟩ (by decide) (by decide) fun t ds2 t0 t1 p2 => ?_
    try simp only [FL.st, List.set, Int.reduceToNat, List.set_cons_zero, List.set_cons_succ]
    refine w_mulS rfl rfl ⟨by omega, by omega, line_le (by rw [lz]; omega)⟩ ?_
    walk_at "W"
    have ro : CS (callF (fdsOf R) 2000 69 16 [.val (.str (Txt.mul z t))]) fun r _ => r = .val (.bl true) := by
      rw [right_ok]
      exact rfl
    refine w_callV (ds := [.str (Txt.mul z t)]) (cs_mono ro fun r _ e => ?_)
    subst e
    walk_at "W"
    exact ⟨is, _, _, rfl, hi2, rfl⟩
  · intro S ⟨is, x2, x3, eL, hi, eS⟩
    subst eS
    walk_at "W"
    exact hQ _
def deep : Nat := 70
def wide : Nat := 2000
theorem math (ns : List Int) (hn : ns.length ≤ 63) : ∃ outs, callF (fdsOf R) wide deep 17 [.val (.lst (ns.map D.int))] = .ok (.val (.bl true)) outs := by
  refine cs_out ?_
  show CS (callF (fdsOf R) 2000 (69 + 1) 17 _) _
  refine cs_at [some (.val (.lst (ns.map D.int))), none, none, none] [false] b_law (d := d_law) (by rfl) (by rfl) (by rfl) (by rfl) (by rfl) ?_
  refine ws_split 1 (b := b_law) (by unfold b_law; simp only [takeS]; rfl) ?_
  walk_at "W"
  refine ⟨_, _, _, rfl, rfl, eq_nil (oki ns) (depi ns), ?_⟩
  have e12 : cutL (ns.map D.int) none (some 12) = (ns.take 12).map D.int := by
    rw [cut_to (by decide), List.map_take]
    rfl
  cases ns with
  | nil =>
    walk_at "W"
    refine ⟨⟨by simp, by simp, line_le (by simp)⟩, ?_⟩
    walk_at "W"
    refine w_addL rfl rfl (line_le (by decide)) ?_
    walk_at "W"
    exact tail_ok _ [0] (by decide) fun _ => rfl
  | cons n ns =>
    walk_at "W"
    refine ⟨⟨by simp, by simp, line_le (by simp)⟩, ?_⟩
    walk_at "W"
    rw [e12]
    refine w_addL rfl rfl (line_le (by simp; omega)) ?_
    rw [show (List.replicate (if (List.map D.int (n :: ns)).isEmpty = true then (1 : Int) else 0).toNat [D.int 0]).flatten = [] by simp, List.append_nil]
    walk_at "W"
    exact tail_ok _ ((n :: ns).take 12) (by rw [List.length_take]; omega) fun _ => rfl
end Law

theorem PySem.Challenge.cw_ziplanes_k68_errors_are_distinct_holds : PySem.Challenge.rw_ziplanes_k68_errors_are_distinct.Holds :=
  Law.head_of Law.math
