import PyProof.Rows.All
import HandS.ForMost
import HandS.TupAny
import KE.SortData
import KE.SortKeyHeap
import PyProof.P3Eq
import HandS.AnyAll
import HandS.IsInst
import HandS.NoneIn
import HandS.Walk
import KE.GoesMore
import KE.GoesEnum
import HandS.Zip
import HandS.GenList
import HandS.Small
import HandS.Style
import HandS.SortRule
import HandS.More
import HandS.ListItems
import KE.KDictPairs
import HandS.SortKw
import HandS.EndTab
import PySem.Challenge.RW_heapsparted_k00_names_and_terms
import PyProof.StrLawsIn
import PyProof.Rows.All
import Wide.All
import OpenK.AllK
import KE.KExcTry
import KE.KExcStr
import KE.KExcIs
import KE.KExcLine
import KE.KCallBy
import HandS.Hot
import HandS.Words
set_option Elab.async false
set_option linter.all false
set_option maxRecDepth 100000
set_option maxHeartbeats 4000000
/-! KzA: data whose first difference can be told by <, places behind it of whatever kinds. -/
namespace Kz
open PySem PySem.Calls PyProof.Rows PySem.W PySem.SeqAt
abbrev lx : List (Int ⊕ List Nat) → List (Int ⊕ List Nat) → Bool := PyProof.Rows.lexLt itemOrd
mutual
/-- comparable up to the first difference -/
def cm : PyData → PyData → Bool
  | .none, .none => true
  | .bool _, .bool _ => true
  | .int _, .int _ => true
  | .str _, .str _ => true
  | .tuple xs, .tuple ys => cms xs ys
  | _, _ => false
def cms : List PyData → List PyData → Bool
  | x :: xs, y :: ys => cm x y && (!(PyData.eqv x y) || cms xs ys)
  | [], _ => true
  | _ :: _, [] => true
end
theorem cms_c {x y : PyData} {xs ys : List PyData} (h : cms (x :: xs) (y :: ys) = true) : cm x y = true ∧ (PyData.eqv x y = true → cms xs ys = true) := by
  rw [cms, Bool.and_eq_true, Bool.or_eq_true] at h
  refine ⟨h.1, fun e => ?_⟩
  rcases h.2 with k | k
  · rw [e] at k; cases k
  · exact k
mutual
theorem cm_toks : ∀ (x y : PyData), cm x y = true → (PyData.eqv x y = true → keyToks x = keyToks y) ∧ (PyData.eqv x y = false → ∀ l m, lx (keyToks x ++ l) (keyToks y ++ m) = lx (keyToks x) (keyToks y))
  | .none, y, h => toks_eqv .none y (by cases y <;> first | (simp [alike]; done) | (simp [cm] at h))
  | .bool a, y, h => toks_eqv (.bool a) y (by cases y <;> first | (simp [alike]; done) | (simp [cm] at h))
  | .int a, y, h => toks_eqv (.int a) y (by cases y <;> first | (simp [alike]; done) | (simp [cm] at h))
  | .str a, y, h => toks_eqv (.str a) y (by cases y <;> first | (simp [alike]; done) | (simp [cm] at h))
  | .tuple xs, y, h => by
    cases y with
    | tuple ys =>
      have t := cms_toks xs ys (by simpa [cm] using h)
      simp only [keyToks, PyData.eqv]
      exact t
    | _ => simp [cm] at h
  | .list _, y, h => by cases y <;> simp [cm] at h
  | .dict _, y, h => by cases y <;> simp [cm] at h
theorem cms_toks : ∀ (xs ys : List PyData), cms xs ys = true → (PyData.eqvAll xs ys = true → keyToksAll xs = keyToksAll ys) ∧ (PyData.eqvAll xs ys = false → ∀ l m, lx (keyToksAll xs ++ l) (keyToksAll ys ++ m) = lx (keyToksAll xs) (keyToksAll ys))
  | [], [], _ => ⟨fun _ => rfl, fun e => by simp [PyData.eqvAll] at e⟩
  | [], y :: ys, _ => (toksAll_eqv [] (y :: ys) (by simp [alikeAll]))
  | x :: xs, [], _ => (toksAll_eqv (x :: xs) [] (by simp [alikeAll]))
  | x :: xs, y :: ys, h => by
    obtain ⟨h1, h2⟩ := cms_c h
    obtain ⟨a1, a2⟩ := cm_toks x y h1
    rw [eqv_all_cons, toks_all_cons, toks_all_cons]
    cases hx : PyData.eqv x y with
    | false =>
      refine ⟨fun e => by simp at e, fun _ l m => ?_⟩
      have p := a2 hx
      show lx (.inl 1 :: (keyToks x ++ keyToksAll xs) ++ l) (.inl 1 :: (keyToks y ++ keyToksAll ys) ++ m) = lx (.inl 1 :: (keyToks x ++ keyToksAll xs)) (.inl 1 :: (keyToks y ++ keyToksAll ys))
      rw [List.cons_append, List.cons_append, List.append_assoc, List.append_assoc]
      have q1 := lex_self (O := itemOrd) (.inl 1) (keyToks x ++ (keyToksAll xs ++ l)) (keyToks y ++ (keyToksAll ys ++ m))
      have q2 := lex_self (O := itemOrd) (.inl 1) (keyToks x ++ keyToksAll xs) (keyToks y ++ keyToksAll ys)
      exact q1.trans ((p _ _).trans ((p _ _).symm.trans q2.symm))
    | true =>
      obtain ⟨b1, b2⟩ := cms_toks xs ys (h2 hx)
      rw [a1 hx, Bool.true_and]
      refine ⟨fun e => by rw [b1 e], fun e l m => ?_⟩
      show lx (.inl 1 :: (keyToks y ++ keyToksAll xs) ++ l) (.inl 1 :: (keyToks y ++ keyToksAll ys) ++ m) = lx (.inl 1 :: (keyToks y ++ keyToksAll xs)) (.inl 1 :: (keyToks y ++ keyToksAll ys))
      rw [List.cons_append, List.cons_append, List.append_assoc, List.append_assoc]
      have q1 := lex_self (O := itemOrd) (.inl 1) (keyToks y ++ (keyToksAll xs ++ l)) (keyToks y ++ (keyToksAll ys ++ m))
      have q2 := lex_self (O := itemOrd) (.inl 1) (keyToks y ++ keyToksAll xs) (keyToks y ++ keyToksAll ys)
      exact q1.trans ((lex_pre _ _ _).trans ((b2 e l m).trans ((lex_pre _ _ _).symm.trans q2.symm)))
end
/-- equal heads: the rest decides; other heads: they decide -/
theorem lx_eq {x y : PyData} {xs ys : List PyData} (h : cm x y = true) (e : PyData.eqv x y = true) : lx (keyToksAll (x :: xs)) (keyToksAll (y :: ys)) = lx (keyToksAll xs) (keyToksAll ys) := by
  rw [toks_all_cons, toks_all_cons, (cm_toks x y h).1 e]
  exact (lex_self (O := itemOrd) _ _ _).trans (lex_pre _ _ _)
theorem lx_ne {x y : PyData} {xs ys : List PyData} (h : cm x y = true) (e : PyData.eqv x y = false) : lx (keyToksAll (x :: xs)) (keyToksAll (y :: ys)) = dataLt x y := by
  rw [toks_all_cons, toks_all_cons]
  exact (lex_self (O := itemOrd) _ _ _).trans ((cm_toks x y h).2 e _ _)
theorem cms_first : ∀ (xs ys : List PyData), cms xs ys = true → firstLt (pairEq xs ys) (fun j => dataLt (xs.getD j .none) (ys.getD j .none)) (decide (xs.length < ys.length)) (List.range (min xs.length ys.length)) = lx (keyToksAll xs) (keyToksAll ys)
  | [], ys, _ => firstLt_toks [] ys (by cases ys <;> simp [alikeAll])
  | x :: xs, [], _ => firstLt_toks (x :: xs) [] (by simp [alikeAll])
  | x :: xs, y :: ys, h => by
    obtain ⟨h1, h2⟩ := cms_c h
    have e1 : min (x :: xs).length (y :: ys).length = min xs.length ys.length + 1 := by simp only [List.length_cons]; omega
    have e2 : decide ((x :: xs).length < (y :: ys).length) = decide (xs.length < ys.length) := by simp only [List.length_cons, Nat.add_lt_add_iff_right]
    rw [e1, e2, List.range_succ_eq_map]
    cases hx : PyData.eqv x y with
    | false =>
      rw [firstLt_no (show pairEq (x :: xs) (y :: ys) 0 = false from hx), lx_ne h1 hx]
      rfl
    | true =>
      have ih := cms_first xs ys (h2 hx)
      rw [firstLt_yes (show pairEq (x :: xs) (y :: ys) 0 = true from hx), firstLt_map, lx_eq h1 hx, ← ih]
      rfl
/-! ### < of tuples: the items' < is asked at the first difference alone -/
open AutoSeq1 (wpAny_loadPart')
open MeetsSeq MeetsSeq2 MeetsSeq3 SeqRoads2
theorem tup_lt1 (p q : Addr) (us vs : Array Value) (nu nv : Nat) (du dv : Option Addr) (su sv : Array (Option Value)) (e r : Nat → Bool) :
    Meets (Builtin.«tuple.__lt__» ⟨[.ref p, .ref q], []⟩)
      (fun A R s => s.heap.get? p = some { cls := .type "tuple", dict := du, data := .seq us nu, slots := su } ∧ s.heap.get? q = some { cls := .type "tuple", dict := dv, data := .seq vs nv, slots := sv } ∧
        (∀ j (k1 : j < us.size) (k2 : j < vs.size), EqAt A.in1 s us[j] vs[j] (e j)) ∧ (∀ j (k1 : j < us.size) (k2 : j < vs.size), (∀ i, i < j → e i = true) → e j = false → RcLt A.in1 s us[j] vs[j] (r j)) ∧
        R (.ok (.ret (.bool (firstLt e r (decide (us.size < vs.size)) (List.range (min us.size vs.size)))))) s) :=
  .of_wp fun prog w A R s h => by
    obtain ⟨hp, gg, dd, tk, os⟩ := s; obtain ⟨hp1, hq1, he, hr, h⟩ := h
    have f2 := AutoSeq1.sub_tuple_tuple
    have hzl : (us.toList.zip vs.toList).length = min us.size vs.size := by simp
    wp_walk using wpAny_loadPart' hp1, wpAny_loadPart' hq1, wpAny_forIn_list _ (fun rest b s' => b.1 = none ∧ s' = ⟨hp, gg, dd, tk, os⟩ ∧ ∃ i, rest = (us.toList.zip vs.toList).drop i ∧ (∀ k, k < i → e k = true) ∧
      R (.ok (.ret (.bool (firstLt e r (decide (us.size < vs.size)) ((List.range (min us.size vs.size)).drop i))))) ⟨hp, gg, dd, tk, os⟩) _
    case turn =>
      rintro ⟨y, x⟩ rest b s' ⟨hb', rfl, i, hz, hall, hR⟩
      have hlt : i < (us.toList.zip vs.toList).length := by
        rcases Nat.lt_or_ge i (us.toList.zip vs.toList).length with k | k
        · exact k
        · rw [List.drop_of_length_le k] at hz; cases hz
      have hm : i < min us.size vs.size := hzl ▸ hlt
      have k1 : i < us.size := Nat.lt_of_lt_of_le hm (Nat.min_le_left _ _)
      have k2 : i < vs.size := Nat.lt_of_lt_of_le hm (Nat.min_le_right _ _)
      rw [List.drop_eq_getElem_cons hlt] at hz
      injection hz with hyx hrest
      have hy : y = us[i] := by simpa using congrArg Prod.fst hyx
      have hx : x = vs[i] := by simpa using congrArg Prod.snd hyx
      subst hy hx
      have hd1 : (List.range (min us.size vs.size)).drop i = i :: (List.range (min us.size vs.size)).drop (i + 1) := by simp [List.drop_eq_getElem_cons, hm]
      rw [hd1] at hR
      refine wpAny_bind (he i k1 k2 prog w _ _ ?_)
      cases hy : e i with
      | false =>
        rw [firstLt_no hy] at hR
        have key := hr i k1 k2 hall hy
        unfold RcLt at key
        generalize PySem.richCompare .Lt us[i] vs[i] = rc at key ⊢
        wp_walk
        refine key prog w _ _ ?_
        wp_walk
        exact ⟨_, rfl, hR⟩
      | true =>
        rw [firstLt_yes hy] at hR
        wp_walk
        refine ⟨rfl, rfl, i + 1, hrest, fun k hk => ?_, hR⟩
        rcases Nat.lt_succ_iff_lt_or_eq.mp hk with hk | rfl
        · exact hall k hk
        · exact hy
    case fin =>
      rintro ⟨b1, b2⟩ s' ⟨hb', rfl, i, hz, _, hR⟩
      simp only at hb'
      subst hb'
      have hge : min us.size vs.size ≤ i := by
        rcases Nat.lt_or_ge i (us.toList.zip vs.toList).length with k | k
        · rw [List.drop_eq_getElem_cons k] at hz; cases hz
        · exact hzl ▸ k
      rw [List.drop_of_length_le (by simpa using hge)] at hR
      wp_walk
      exact ⟨_, rfl, by simpa [Builtin.Tuple.tupleCompareSizes, firstLt] using hR⟩
    case h =>
      exact ⟨rfl, rfl, 0, rfl, fun k hk => absurd hk (Nat.not_lt_zero k), by simpa using h⟩
section
variable {A : Around} {s : Shared}
theorem rc_tup {p q : Addr} {us vs : Array Value} {e r : Nat → Bool} (hp : s.heap.IsTuple p us) (hq : s.heap.IsTuple q vs) (hu : A.units < cLine)
    (he : ∀ j (k1 : j < us.size) (k2 : j < vs.size), EqAt A.in1 s us[j] vs[j] (e j)) (hr : ∀ j (k1 : j < us.size) (k2 : j < vs.size), (∀ i, i < j → e i = true) → e j = false → RcLt A.in1 s us[j] vs[j] (r j)) :
    RcLt A s (.ref p) (.ref q) (firstLt e r (decide (us.size < vs.size)) (List.range (min us.size vs.size))) := fun prog w E Q h => by
  obtain ⟨⟨c1, d1, g1, l1⟩, ho, hc, n, hd⟩ := id hp
  obtain ⟨⟨c2, d2, g2, l2⟩, ho2, hc2, n2, hd2⟩ := id hq
  simp only at hc hd hc2 hd2
  subst hc hd hc2 hd2
  exact richCompare_meets_room (op := .Lt) ⟨_, ho, rfl⟩ ⟨_, ho2, rfl⟩ F.slot_tuple_lt F.entry_tuple_lt (F.args_tuple_lt_2 _ _) (tup_lt1 p q us vs n n2 d1 d2 l1 l2 e r)
    ⟨ho, ho2, he, hr, fun z => (nomatch z), h⟩ hu
theorem cm_none {x y : PyData} (h : cm x y = true) (e : PyData.eqv x y = false) : x ≠ .none := by
  rintro rfl
  cases y with
  | none => simp [PyData.eqv] at e
  | _ => simp [cm] at h
mutual
theorem rc_cm : ∀ (x y : PyData) (A : Around) (s : Shared) (u v : Value) (as bs : List Addr), Reads s.heap u x as → Reads s.heap v y bs → cm x y = true → x.canLay0 = true → y.canLay0 = true → x ≠ .none → A.units + min x.depth y.depth < cLine → RcLt A s u v (dataLt x y)
  | .none, _, _, _, _, _, _, _, _, _, _, _, _, hn, _ => absurd rfl hn
  | .bool b, y, A, s, u, v, as, bs, ru, rv, h, _, _, hn, hu => rcLt_alike (.bool b) y A s u v as bs ru rv (by cases y <;> first | (simp [alike]; done) | (simp [cm] at h)) hn hu
  | .int b, y, A, s, u, v, as, bs, ru, rv, h, _, _, hn, hu => rcLt_alike (.int b) y A s u v as bs ru rv (by cases y <;> first | (simp [alike]; done) | (simp [cm] at h)) hn hu
  | .str b, y, A, s, u, v, as, bs, ru, rv, h, _, _, hn, hu => rcLt_alike (.str b) y A s u v as bs ru rv (by cases y <;> first | (simp [alike]; done) | (simp [cm] at h)) hn hu
  | .tuple xs, y, A, s, u, v, as, bs, ru, rv, h, l1, l2, hn, hu => by
    cases y with
    | tuple ys =>
      have hc : cms xs ys = true := by simpa [cm] using h
      have l1' : PyData.canLayAll0 xs = true := by simpa [PyData.canLay0] using l1
      have l2' : PyData.canLayAll0 ys = true := by simpa [PyData.canLay0] using l2
      cases ru with
      | @tuple a o us n _ _ g1 g2 g3 g4 =>
        cases rv with
        | @tuple a' o' ws n' _ _ k1 k2 k3 k4 =>
          have z1 : us.size = xs.length := by simpa using ReadsAll.length _ _ _ g4
          have z2 : ws.size = ys.length := by simpa using ReadsAll.length _ _ _ k4
          have ef : _ = PyProof.Rows.lexLt itemOrd (keyToksAll xs) (keyToksAll ys) := cms_first xs ys hc
          rw [dataLt_tuple, ← ef, ← z1, ← z2]
          refine rc_tup ⟨_, g1, g2, _, g3⟩ ⟨_, k1, k2, _, k3⟩ (room_here hu) (fun j j1 j2 => ?_) fun j j1 j2 ha hj => ?_
          · have := eqAt_readsAll xs ys A.in1 s us.toList ws.toList _ _ g4 k4 l1' l2' (room_in hu) j (by simpa using j1) (by simpa using j2)
            simpa using this
          · have := rc_cms xs ys A.in1 s us.toList ws.toList _ _ g4 k4 hc l1' l2' (room_in hu) j (by simpa using j1) (by simpa using j2) ha hj
            simpa using this
    | _ => simp [cm] at h
  | .list _, y, _, _, _, _, _, _, _, _, h, _, _, _, _ => by cases y <;> simp [cm] at h
  | .dict _, y, _, _, _, _, _, _, _, _, h, _, _, _, _ => by cases y <;> simp [cm] at h
theorem rc_cms : ∀ (xs ys : List PyData) (A : Around) (s : Shared) (us ws : List Value) (as bs : List Addr), ReadsAll s.heap us xs as → ReadsAll s.heap ws ys bs → cms xs ys = true → PyData.canLayAll0 xs = true → PyData.canLayAll0 ys = true →
    A.units + min (PyData.depthAll xs) (PyData.depthAll ys) < cLine → ∀ j (k1 : j < us.length) (k2 : j < ws.length), (∀ i, i < j → pairEq xs ys i = true) → pairEq xs ys j = false → RcLt A s us[j] ws[j] (dataLt (xs.getD j .none) (ys.getD j .none))
  | [], _, _, _, _, _, _, _, ru, _, _, _, _, _, j, k1, _, _, _ => by cases ru; exact absurd k1 (Nat.not_lt_zero _)
  | _ :: _, [], _, _, _, _, _, _, _, rv, _, _, _, _, j, _, k2, _, _ => by cases rv; exact absurd k2 (Nat.not_lt_zero _)
  | x :: xs, y :: ys, A, s, _, _, _, _, ru, rv, h, l1, l2, hu, j, k1, k2, ha, hj => by
    obtain ⟨h1, h2⟩ := cms_c h
    have l1' : x.canLay0 = true ∧ PyData.canLayAll0 xs = true := by simpa [PyData.canLayAll0] using l1
    have l2' : y.canLay0 = true ∧ PyData.canLayAll0 ys = true := by simpa [PyData.canLayAll0] using l2
    cases ru with
    | cons r rs =>
      cases rv with
      | cons r' rs' =>
        cases j with
        | zero => exact rc_cm x y A s _ _ _ _ r r' h1 l1'.1 l2'.1 (cm_none h1 hj) (room_head hu)
        | succ j =>
          have e0 : PyData.eqv x y = true := ha 0 (Nat.succ_pos j)
          exact rc_cms xs ys A s _ _ _ _ rs rs' (h2 e0) l1'.2 l2'.2 (room_tail hu) j (Nat.lt_of_succ_lt_succ k1) (Nat.lt_of_succ_lt_succ k2) (fun i hi => ha (i + 1) (Nat.succ_lt_succ hi)) hj
end
end
end Kz


set_option Elab.async false
set_option linter.all false
set_option maxRecDepth 100000
set_option maxHeartbeats 4000000
/-! KzB: such data can be sorted. -/
namespace Kz
open PySem PySem.Calls PyProof.Rows PySem.W PySem.SeqAt
def AllCm (ds : List PyData) : Prop := (∀ d, d ∈ ds → ∀ d', d' ∈ ds → cm d d' = true) ∧ ∀ d, d ∈ ds → d.canLay0 = true
theorem cm_alike {x y : PyData} (h : cm x y = true) (hx : ∀ l, x ≠ .tuple l) : alike x y = true := by
  cases x with
  | tuple l => exact absurd rfl (hx l)
  | _ => cases y <;> first | (simp [cm] at h; done) | simp [alike]
section
variable {prog : Program} {w : World} {A : Around} {E : Value → Shared → Prop} {s : Shared}
theorem one_cm {f : Bool} {x y : PyData} {u v : Value} {as bs : List Addr} {Q : Bool → Shared → Prop} (hf : f = true → ∀ l, x ≠ .tuple l) (ru : Reads s.heap u x as) (rv : Reads s.heap v y bs) (h : cm x y = true) (l1 : x.canLay0 = true) (l2 : y.canLay0 = true) (hn : x ≠ .none)
    (hu : A.units + min x.depth y.depth < cLine) (hq : Q (dataLt x y) s) : wpAny (model prog w) A (oneLt' f u v) Q E s := by
  cases f with
  | true => exact oneLt_alike hf ru rv (cm_alike h (hf rfl)) hn hu hq
  | false =>
    rw [oneLt'_eq]
    simp only [Bool.false_eq_true, if_false]
    exact wpAny_bind (rc_cm x y A s u v as bs ru rv h l1 l2 hn hu prog w E _ (wpAny_truthy_bool hq))
theorem lex_cm {b fin : Bool} {Q : Bool → Shared → Prop} : ∀ (xs ys : List PyData) (i : Nat) (us vs : List Value) (as bs : List Addr), ReadsAll s.heap us xs as → ReadsAll s.heap vs ys bs → cms xs ys = true → PyData.canLayAll0 xs = true → PyData.canLayAll0 ys = true →
    A.units + min (PyData.depthAll xs) (PyData.depthAll ys) < cLine → (b = true → i = 0 → ∀ x r t, xs = x :: r → x ≠ .tuple t) → fin = decide (xs.length < ys.length) → Q (PyProof.Rows.lexLt itemOrd (keyToksAll xs) (keyToksAll ys)) s → KatLex prog w A b fin Q (us.zip vs) i s
  | [], ys, i, us, vs, as, bs, ra, rb, _, _, _, hu, hb, hf, hq => katLex_alike [] ys i us vs as bs ra rb (by cases ys <;> simp [alikeAll]) hu hb hf hq
  | x :: xs, [], i, us, vs, as, bs, ra, rb, _, _, _, hu, hb, hf, hq => katLex_alike (x :: xs) [] i us vs as bs ra rb (by simp [alikeAll]) hu hb hf hq
  | x :: xs, y :: ys, i, _, _, _, _, ra, rb, h, l1, l2, hu, hb, hf, hq => by
    obtain ⟨h1, h2⟩ := cms_c h
    have l1' : x.canLay0 = true ∧ PyData.canLayAll0 xs = true := by simpa [PyData.canLayAll0] using l1
    have l2' : y.canLay0 = true ∧ PyData.canLayAll0 ys = true := by simpa [PyData.canLayAll0] using l2
    have hf' : fin = decide (xs.length < ys.length) := by
      rw [hf]
      simp only [List.length_cons, Nat.add_lt_add_iff_right]
    cases ra with
    | cons r rs =>
      cases rb with
      | cons r' rs' =>
        rw [List.zip_cons_cons]
        refine kat_cons (eqAt_reads x y A s _ _ _ _ r r' l1'.1 l2'.1 (room_head hu) prog w _ _ ?_)
        cases hx : PyData.eqv x y with
        | false =>
          have eq1 : PyProof.Rows.lexLt itemOrd (keyToksAll (x :: xs)) (keyToksAll (y :: ys)) = dataLt x y := lx_ne h1 hx
          rw [eq1] at hq
          refine kat_no (one_cm (fun hbi t => ?_) r r' h1 l1'.1 l2'.1 (cm_none h1 hx) (room_head hu) hq)
          rw [Bool.and_eq_true] at hbi
          exact hb hbi.1 (by simpa using hbi.2) x xs t rfl
        | true =>
          have eq1 : PyProof.Rows.lexLt itemOrd (keyToksAll (x :: xs)) (keyToksAll (y :: ys)) = PyProof.Rows.lexLt itemOrd (keyToksAll xs) (keyToksAll ys) := lx_eq h1 hx
          rw [eq1] at hq
          exact kat_yes (lex_cm xs ys (i + 1) _ _ _ _ rs rs' (h2 hx) l1'.2 l2'.2 (room_tail hu) (fun _ hi => absurd hi (Nat.succ_ne_zero i)) hf' hq)
end
/-! what reads as a datum without dicts reads as no other -/
mutual
theorem uniq {h : Heap} : ∀ (d d' : PyData) (v : Value) (as as' : List Addr), d.canLay0 = true → d'.canLay0 = true → Reads h v d as → Reads h v d' as' → d = d'
  | .none, _, _, _, _, _, _, r, r' => by cases r; cases r'; rfl
  | .bool _, _, _, _, _, _, _, r, r' => by cases r; cases r'; rfl
  | .int _, _, _, _, _, _, _, r, r' => by cases r; cases r'; rfl
  | .str _, _, _, _, _, _, _, r, r' => by cases r; cases r'; rfl
  | .list xs, d', _, _, _, l1, l2, r, r' => by
    cases r with
    | list g1 g2 g3 g4 =>
      cases r' with
      | list k1 k2 k3 k4 =>
        rw [g1] at k1; cases k1
        rw [g3] at k3; cases k3
        rw [uniqs xs _ _ _ _ (by simpa [PyData.canLay0] using l1) (by simpa [PyData.canLay0] using l2) g4 k4]
      | tuple k1 k2 k3 k4 =>
        rw [g1] at k1; cases k1
        rw [g2] at k2; simp at k2
      | dict k1 k2 k3 k4 k5 => simp [PyData.canLay0] at l2
  | .tuple xs, d', _, _, _, l1, l2, r, r' => by
    cases r with
    | tuple g1 g2 g3 g4 =>
      cases r' with
      | tuple k1 k2 k3 k4 =>
        rw [g1] at k1; cases k1
        rw [g3] at k3; cases k3
        rw [uniqs xs _ _ _ _ (by simpa [PyData.canLay0] using l1) (by simpa [PyData.canLay0] using l2) g4 k4]
      | list k1 k2 k3 k4 =>
        rw [g1] at k1; cases k1
        rw [g2] at k2; simp at k2
      | dict k1 k2 k3 k4 k5 => simp [PyData.canLay0] at l2
  | .dict _, _, _, _, _, l1, _, _, _ => by simp [PyData.canLay0] at l1
theorem uniqs {h : Heap} : ∀ (xs ys : List PyData) (vs : List Value) (as as' : List Addr), PyData.canLayAll0 xs = true → PyData.canLayAll0 ys = true → ReadsAll h vs xs as → ReadsAll h vs ys as' → xs = ys
  | [], _, _, _, _, _, _, r, r' => by cases r; cases r'; rfl
  | x :: xs, [], _, _, _, _, _, r, r' => by cases r'; cases r
  | x :: xs, y :: ys, _, _, _, l1, l2, r, r' => by
    have l1' : x.canLay0 = true ∧ PyData.canLayAll0 xs = true := by simpa [PyData.canLayAll0] using l1
    have l2' : y.canLay0 = true ∧ PyData.canLayAll0 ys = true := by simpa [PyData.canLayAll0] using l2
    cases r with
    | cons g1 g2 =>
      cases r' with
      | cons k1 k2 => rw [uniq x y _ _ _ l1'.1 l2'.1 g1 k1, uniqs xs ys _ _ _ l1'.2 l2'.2 g2 k2]
end
theorem kind_of {h : Heap} {ds : List PyData} (hal : AllCm ds) {v : Value} {d : PyData} {as : List Addr} (hd : d ∈ ds) (r : Reads h v d as) : (dataKind h ds).keyOf v = some (keyToks d) := by
  have q : ∃ d, d ∈ ds ∧ ∃ as, Reads h v d as := ⟨d, hd, as, r⟩
  obtain ⟨h1, as', h2⟩ := q.choose_spec
  have e : (dataKind h ds).keyOf v = some (keyToks q.choose) := by
    show (open Classical in if q : ∃ d, d ∈ ds ∧ ∃ as, Reads h v d as then some (keyToks q.choose) else none) = _
    rw [dif_pos q]
  rw [e, uniq _ _ _ _ _ (hal.2 _ h1) (hal.2 _ hd) h2 r]
theorem type_cm {x y : PyData} (h : cm x y = true) : dataType x = dataType y := by
  cases x <;> cases y <;> first | rfl | (simp [cm] at h)
section
variable {prog : Program} {w : World} {A : Around} {s : Shared}
theorem sorts_cm {vs : List Value} {ds : List PyData} (e : EachIs (fun v d => ∃ as, Reads s.heap v d as) vs ds) (hal : AllCm ds) (hk : Sortable ds) (hu : ∀ d, d ∈ ds → A.units + d.depth < cLine) : SortsAt prog w A s (dataKind s.heap ds) vs := by
  rcases hk with ht | hn
  · cases ds with
    | nil => exact SortsAt.data e (fun d hd => by cases hd) (.inl ht) hu
    | cons d0 ds0 =>
      have room : ∀ {d d' : PyData}, d ∈ d0 :: ds0 → A.units + min d.depth d'.depth < cLine := fun {d d'} hd => Nat.lt_of_le_of_lt (Nat.add_le_add_left (Nat.min_le_left _ _) _) (hu d hd)
      obtain ⟨x0, r0, e0⟩ := ht d0 List.mem_cons_self
      have hfst : ∀ x r, PyData.tuple (x :: r) ∈ d0 :: ds0 → cm x x0 = true := fun x r hm => by
        have q := hal.1 _ hm d0 List.mem_cons_self
        rw [e0] at q
        exact (cms_c (by simpa [cm] using q)).1
      refine ⟨fun v hv => ?_, tuples' (dataType x0 != Value.type "tuple"), ?_, fun h2 E Q hq => ?_⟩
      · obtain ⟨d, hd, as, r⟩ := e.left v hv
        exact ⟨_, kind_of hal hd r⟩
      · intro E x y a b Q ha hb hq
        obtain ⟨d, as, hd, ra, rfl⟩ := dataKind_inv ha
        obtain ⟨d', as', hd', rb, rfl⟩ := dataKind_inv hb
        have hdd := hal.1 d hd d' hd'
        have lay1 := hal.2 d hd
        have lay2 := hal.2 d' hd'
        have hroom := room (d' := d') hd
        obtain ⟨x1, r1, rfl⟩ := ht d hd
        obtain ⟨x2, r2, rfl⟩ := ht d' hd'
        have hq' : Q (dataLt (.tuple (x1 :: r1)) (.tuple (x2 :: r2))) s := hq
        rw [dataLt_tuple] at hq'
        cases ra with
        | @tuple l o us n _ _ g1 g2 g3 g4 =>
          cases rb with
          | @tuple l' o' ws n' _ _ k1 k2 k3 k4 =>
            have z1 : us.size = (x1 :: r1).length := by simpa using SeqAt.ReadsAll.length _ _ _ g4
            have z2 : ws.size = (x2 :: r2).length := by simpa using SeqAt.ReadsAll.length _ _ _ k4
            refine kat_lt g1 g3 k1 k3 (lex_cm (x1 :: r1) (x2 :: r2) 0 _ _ _ _ g4 k4 (by simpa [cm] using hdd) (by simpa [PyData.canLay0] using lay1) (by simpa [PyData.canLay0] using lay2) (by have q := SeqAt.room_in hroom; omega) (fun hb _ x r t ex => ?_) (by rw [z1, z2]) hq')
            obtain ⟨rfl, rfl⟩ := List.cons.inj ex
            rw [← type_cm (hfst _ _ hd)] at hb
            exact dataType_tuple hb t
      · obtain ⟨fs, t1, t2, t3⟩ := each_katTups e ht
        refine kat_kind (T := dataType x0) t1 (by omega) (fun f hf => ?_) (beq_self_eq_true _) hq
        obtain ⟨x, r, as, m1, m2⟩ := t3 f hf
        rw [← type_cm (hfst x r m1)]
        exact looks_reads m2
  · exact SortsAt.data e (fun d hd d' hd' => cm_alike (hal.1 d hd d' hd') (hn d hd).2) (.inr hn) hu
end
theorem keys_cm {h : Heap} {ds : List PyData} (hal : AllCm ds) {vs : List Value} (e : EachIs (fun v d => ∃ as, Reads h v d as) vs ds) : EachIs (fun v d => (dataKind h ds).keyOf v = some (keyToks d)) vs ds :=
  (each_mem e).mono fun _ _ ⟨⟨_, r⟩, hd⟩ => kind_of hal hd r
theorem vals_cm {β : Type} {h' : Heap} {R : Value → β → Prop} {enc : β → PyData} {ks vs : List Value} {bs : List β} (rev : Bool) (e : EachIs R vs bs) (er : EachIs (fun v d => ∃ as, Reads h' v d as) ks (bs.map enc)) (hal : AllCm (bs.map enc)) :
    EachIs R (sortVals (dataKind h' (bs.map enc)) rev ks vs) (bs.mergeSort (dataLe rev enc)) :=
  sortVals_each (κ := dataKind h' (bs.map enc)) (fun b => keyToks (enc b)) e (each_of_map enc (keys_cm hal er))
end Kz


set_option Elab.async false
set_option linter.all false
set_option maxRecDepth 100000
/-! EvA: a small language over plain data, its evaluator, and the way into it from the model's syntax. -/
namespace Ev
open PySem
abbrev Key := L2.Key

/-- plain data; dic: keys and values in order; ref: a list that is changed in place, by its number -/
inductive D where
  | non | bl (b : Bool) | int (i : Int) | str (x : Str) | tup (l : List D) | lst (l : List D)
  | dic (ks : List Key) (vs : List D) | ref (n : Nat) | tpx (l : List D)
  deriving Inhabited
/-- what a name or an expression holds: nothing, data, a list that nobody else has -/
inductive Rv where
  | un | val (d : D) | mls (l : List D)
  deriving Inhabited
/-- an object that is changed in place: a list, a dict -/
inductive MO where
  | l (xs : List D) | d (ks : List Key) (vs : List D)
abbrev Mem := List MO
structure S where
  σ : List Rv
  M : Mem
/-- an exception: its class by number, what it was made with -/
structure Xc where
  cls : Nat
  args : List D
inductive Res (α : Type) where
  | ok (a : α) | exc (x : Xc) | bad
def Res.bind {α β : Type} : Res α → (α → Res β) → Res β
  | .ok a, f => f a
  | .exc x, _ => .exc x
  | .bad, _ => .bad
def Res.b2 {α β : Type} : Res (α × S) → (α → S → Res β) → Res β
  | .ok (a, s), f => f a s
  | .exc x, _ => .exc x
  | .bad, _ => .bad
def Rv.fz : Rv → D
  | .val d => d
  | .mls l => .lst l
  | .un => .non

inductive Bop where | add | sub | mul | fdiv | mod
  deriving DecidableEq, Repr
inductive Cop where | eq | ne | lt | le | gt | ge | isin | notin
  deriving DecidableEq, Repr
inductive Bi where | len | tuple | list | int | sum | all | any
  deriving DecidableEq, Repr
inductive Ty where | int | bool | str | tuple | list | dict
  deriving DecidableEq, Repr
mutual
/-- targets -/
inductive Tg where | nm (i : Nat) | tp (ts : Tgs)
inductive Tgs where | nil | cons (t : Tg) (ts : Tgs)
end
mutual
inductive E where
  | none | bl (b : Bool) | int (i : Int) | str (x : Str) | cst (n : Nat) | v (i : Nat)
  | tup (es : Es) | lst (es : Es) | rls (es : Es) | rlist (a : E) | dsp (ps : Es)
  | neg (a : E) | bin (o : Bop) (a b : E) | cmp (o : Cop) (a b : E) | chn (o p : Cop) (a b c : E)
  | isn (a : E) | notn (a : E)
  | and (a b : E) | or (a b : E) | not (a : E) | ife (c : B) (a b : E)
  | ix (a b : E) | sl (a lo hi : E) | isi (a : E) (t : Ty)
  | call (f : Nat) (es : Es) | bi (f : Bi) (a : E) | get2 (a k d : E) | pop0 (a : E)
  | lc (vs : List Nat) (tg : Tg) (it : I) (c : B) (elt : E)
  | srk (a : E) (f : Nat) | sti (a : E) | isu (a : E) (t u : Ty)
  | rdc | rcat (a b : E) | srt (a : E) | rev (a : E) | dct (a : E) | itm (a : E) | popl (a : E) | tpl (a : E)
  | ga (al : Bool) (cs : List Nat) (tg : Tg) (it : I) (c : B) (elt : E)
inductive Es where | nil | cons (e : E) (es : Es)
/-- what is walked -/
inductive I where | of (e : E) | rng1 (a : E) | rng2 (a b : E) | rng3 (a b c : E) | enm (a : E) | zip (a b : E)
/-- a test -/
inductive B where | of (e : E) | and (a b : B) | or (a b : B) | not (a : B) | yes
end
mutual
inductive T where
  | asg (tg : Tg) (e : E) | aug (i : Nat) (o : Bop) (e : E) | setix (a i e : E)
  | app (i : Nat) (e : E) | ext (i : Nat) (e : E) | ex (e : E)
  | par (i j : Nat) (a b : E) | par3 (i j k : Nat) (a b c : E)
  | ret (e : E) | rtv (i : Nat) | retn | pass | brk | cnt
  | iff (c : B) (a b : Ts) | fr (tg : Tg) (it : I) (b : Ts) | wh (c : B) (b : Ts)
inductive Ts where | nil | cons (t : T) (ts : Ts)
end

/-! ### operations on data -/
abbrev seqLine : Nat := sizeLine
def cutD (xs : List D) (lo hi : Option Int) : List D :=
  (xs.drop (HT.sIx xs.length 0 lo)).take (HT.sIx xs.length xs.length hi - HT.sIx xs.length 0 lo)
mutual
def toPy : D → PyData
  | .non => .none
  | .bl b => .bool b
  | .int i => .int i
  | .str x => .str x
  | .tup l => .tuple (toPys l)
  | .lst l => .list (toPys l)
  | .dic _ _ => .none
  | .ref _ => .none
  | .tpx l => .tuple (toPys l)
def toPys : List D → List PyData
  | [] => []
  | x :: xs => toPy x :: toPys xs
end
mutual
def pyOk : D → Bool
  | .tup l => pyOks l
  | .tpx l => pyOks l
  | .lst l => pyOks l
  | .dic _ _ => false
  | .ref _ => false
  | _ => true
def pyOks : List D → Bool
  | [] => true
  | x :: xs => pyOk x && pyOks xs
end
/-- == -/
def eqD : D → D → Option Bool
  | .non, .non => some true
  | .non, .bl _ => some false
  | .non, .int _ => some false
  | .non, .str _ => some false
  | .bl _, .non => some false
  | .bl a, .bl b => some (a == b)
  | .bl _, .str _ => some false
  | .int _, .non => some false
  | .int a, .int b => some (decide (a = b))
  | .int _, .str _ => some false
  | .str _, .non => some false
  | .str _, .bl _ => some false
  | .str _, .int _ => some false
  | .str a, .str b => some (decide (a = b))
  | x, y => if (pyOk x && pyOk y && SeqAt.shaped (toPy x) && SeqAt.shaped (toPy y)) = true then some (PyData.eqv (toPy x) (toPy y)) else none
/-- < of ints, texts, tuples of such -/
def ltB : D → D → Option Bool
  | .int a, .int b => some (decide (a < b))
  | .str a, .str b => some (decide (a.cps.toList < b.cps.toList))
  | _, _ => none
mutual
def eqT : D → D → Option Bool
  | .int a, .int b => some (decide (a = b))
  | .str a, .str b => some (decide (a = b))
  | .int _, .str _ => some false
  | .str _, .int _ => some false
  | .tup a, .tup b => eqTs a b
  | _, _ => none
def eqTs : List D → List D → Option Bool
  | [], [] => some true
  | [], _ :: _ => some false
  | _ :: _, [] => some false
  | x :: xs, y :: ys => (eqT x y).bind fun e => (eqTs xs ys).map fun r => e && r
end
/-- what == tells apart by itself -/
def flatD : D → Option L2.V
  | .non => some .non
  | .bl b => some (.bl b)
  | .int i => some (.int i)
  | .str x => some (.str x)
  | _ => none
def flatDs : List D → Option (List L2.V)
  | [] => some []
  | x :: xs => (flatD x).bind fun v => (flatDs xs).map fun vs => v :: vs
def inSeq (x : D) (l : List D) : Option Bool := (flatD x).bind fun v => (flatDs l).map fun vs => L2.inV v vs
/-- a text in a text -/
def occS (x y : Str) : Bool := !(Builtin.Str.occurrences y x 0 y.length 1).isEmpty
def keyD : D → Option Key
  | .int i => some (.inl i)
  | .str x => some (.inr x)
  | _ => none
def lkD : List Key → List D → Key → Option D
  | k :: ks, v :: vs, x => if k = x then some v else lkD ks vs x
  | _, _, _ => none
def inD (x : D) : D → Option Bool
  | .str y => (match x with
    | .str z => some (occS z y)
    | _ => none)
  | .dic ks vs => (match keyD x with
    | some k => some (lkD ks vs k).isSome
    | none => (match x with
      | .non => some false
      | _ => none))
  | .tup l => inSeq x l
  | .lst l => inSeq x l
  | _ => none
def cmpD : Cop → D → D → Option Bool
  | .eq, x, y => eqD x y
  | .ne, x, y => (eqD x y).map fun b => !b
  | .isin, x, y => inD x y
  | .notin, x, y => (inD x y).map fun b => !b
  | .lt, .int a, .int b => some (decide (a < b))
  | .lt, .str a, .str b => some (decide (a.cps.toList < b.cps.toList))
  | .le, .int a, .int b => some (decide (a ≤ b))
  | .gt, .int a, .int b => some (decide (b < a))
  | .ge, .int a, .int b => some (decide (b ≤ a))
  | _, _, _ => none
def two64 (i : Int) : Bool := decide (-(2 ^ 64) < i) && decide (i < 2 ^ 64)
def binD : Bop → D → D → Option Rv
  | .add, .int a, .int b => some (.val (.int (a + b)))
  | .add, .str a, .str b => if a.length + b.length ≤ seqLine then some (.val (.str (a ++ b))) else none
  | .add, .tup a, .tup b => if a.length + b.length ≤ seqLine then some (.val (.tup (a ++ b))) else none
  | .add, .lst a, .lst b => if a.length + b.length ≤ seqLine then some (.mls (a ++ b)) else none
  | .sub, .int a, .int b => some (.val (.int (a - b)))
  | .mul, .int a, .int b => if (two64 a || two64 b) = true then some (.val (.int (a * b))) else none
  | .fdiv, .int a, .int b => if 0 < b ∧ b < 1073741824 then some (.val (.int (a / b))) else none
  | .mod, .int a, .int b => if 0 < b then some (.val (.int (a % b))) else none
  | _, _, _ => none
def isTy : Ty → D → Option Bool
  | _, .ref _ => none
  | .int, .int _ => some true
  | .int, .bl _ => some true
  | .bool, .bl _ => some true
  | .str, .str _ => some true
  | .tuple, .tup _ => some true
  | .tuple, .tpx _ => some true
  | .list, .lst _ => some true
  | .dict, .dic _ _ => some true
  | _, _ => some false
/-- an object's value as it stands -/
def drD (M : Mem) : D → D
  | .ref n => (match M[n]? with
    | some (.l l) => .lst l
    | some (.d ks vs) => .dic ks vs
    | none => .ref n)
  | .tpx l => .tup l
  | d => d
/-- .. a tuple stays as exact as it is -/
def drX (M : Mem) : D → D
  | .tpx l => .tpx l
  | d => drD M d
/-- a text's sign -/
def strAt (x : Str) (i : Int) : Option D := if x.length ≤ sizeLine then (L2.atI x.cps.toList i).map fun c => .str ⟨#[c]⟩ else none
def chars (x : Str) : List D := x.cps.toList.map fun c => .str ⟨#[c]⟩
def ixD : D → D → Option D
  | .tup l, .int i => L2.atI l i
  | .lst l, .int i => L2.atI l i
  | .str x, .int i => strAt x i
  | .dic ks vs, k => (keyD k).bind fun k => lkD ks vs k
  | _, _ => none
def isNo : E → Bool
  | .none => true
  | _ => false
/-- a slice's part: not written, or an int -/
def partD (no : Bool) : D → Option (Option Int)
  | .non => if no = true then some none else none
  | .int i => if no = true then none else some (some i)
  | _ => none
def slD (a : D) (l h : Option Int) : Option Rv := match a with
  | .tup xs => some (.val (.tup (cutD xs l h)))
  | .lst xs => some (.mls (cutD xs l h))
  | .str x => if x.length ≤ sizeLine then some (.val (.str (L2.cutS x l h))) else none
  | _ => none
def intsOf : List D → Option (List Int)
  | [] => some []
  | .int i :: xs => (intsOf xs).map fun r => i :: r
  | _ :: _ => none
def blsOf : List D → Option (List Bool)
  | [] => some []
  | .bl i :: xs => (blsOf xs).map fun r => i :: r
  | _ :: _ => none
def biD : Bi → D → Option Rv
  | .len, .tup l => some (.val (.int l.length))
  | .len, .lst l => some (.val (.int l.length))
  | .len, .str x => if x.length ≤ sizeLine then some (.val (.int x.length)) else none
  | .tuple, .tup l => some (.val (.tup l))
  | .tuple, .lst l => some (.val (.tup l))
  | .list, .tup l => some (.mls l)
  | .list, .lst l => some (.mls l)
  | .int, .int i => some (.val (.int i))
  | .sum, .lst l => (intsOf l).map fun r => .val (.int r.sum)
  | .all, .lst l => (blsOf l).map fun r => .val (.bl (r.all id))
  | .any, .lst l => (blsOf l).map fun r => .val (.bl (r.any id))
  | _, _ => none
def keysD : List D → Option (List Key)
  | [] => some []
  | x :: xs => (keyD x).bind fun k => (keysD xs).map fun ks => k :: ks
def getD2 (a k d : D) : Option D := match a with
  | .dic ks vs => (keyD k).map fun k => (lkD ks vs k).getD d
  | _ => none
def isDicD : D → Bool
  | .dic _ _ => true
  | _ => false
def splitD : List D → Option (List Key × List D)
  | [] => some ([], [])
  | k :: v :: r => (keyD k).bind fun k => (splitD r).map fun p => (k :: p.1, v :: p.2)
  | _ => none
/-- a display of a dict, key by value: all keys different -/
def dspD (l : List D) : Option D := (splitD l).bind fun p => if p.1.Nodup ∧ p.1.length ≤ 15 ∧ p.1 ≠ [] then some (.dic p.1 p.2) else none
/-- sorted: what stands alike, place by place -/
def srtL (l : List D) : List D := l.mergeSort (PySem.W.dataLe false toPy)
def isI : D → Bool
  | .int _ => true
  | _ => false
def hdT : D → Bool
  | .tup (_ :: _) => true
  | _ => false
def noT : D → Bool
  | .non => false
  | .tup _ => false
  | .tpx _ => false
  | .dic _ _ => false
  | .ref _ => false
  | _ => true
def cmpAll (l : List D) : Bool := l.all fun x => l.all fun y => PySem.W.alike (toPy x) (toPy y)
def srtOk (l : List D) : Bool := pyOks l && (l.all hdT || l.all noT) && cmpAll l && l.all fun x => decide ((toPy x).depth ≤ 60)
/-- what can be put in order by its first difference -/
def cmOk (l : List D) : Bool := pyOks l && (l.all hdT || l.all noT) && (l.all fun x => l.all fun y => Kz.cm (toPy x) (toPy y)) && l.all fun x => (toPy x).canLay0 && decide ((toPy x).depth ≤ 60)
def keyE : Key → D
  | .inl i => .int i
  | .inr x => .str x
def srtD : D → Option (List D)
  | .lst l => if (srtOk l || cmOk l) = true then some (srtL l) else none
  | .tup l => if srtOk l = true then some (srtL l) else none
  | .dic ks _ => if ((ks.map keyE).all isI && decide (ks.length < 64)) = true then some (srtL (ks.map keyE)) else none
  | _ => none
def revD : D → Option Rv
  | .tup l => some (.val (.tup l.reverse))
  | .lst l => some (.mls l.reverse)
  | _ => none
/-- the pairs of a list -/
def prsD : List D → Option (List Key × List D)
  | [] => some ([], [])
  | .tup [k, v] :: r => (keyD k).bind fun k => (prsD r).map fun p => (k :: p.1, v :: p.2)
  | _ :: _ => none
def setV : List Key → List D → Key → D → List D
  | k :: ks, v :: vs, x, y => (if k = x then y else v) :: setV ks vs x y
  | _, vs, _, _ => vs
def putD (ks : List Key) (vs : List D) (x : Key) (y : D) : List Key × List D :=
  if (ks.any fun k => decide (k = x)) = true then (ks, setV ks vs x y) else (ks ++ [x], vs ++ [y])
def mrgD : List Key → List D → List Key → List D → List Key × List D
  | ks, vs, x :: xs, y :: ys => let p := putD ks vs x y; mrgD p.1 p.2 xs ys
  | ks, vs, _, _ => (ks, vs)
/-- dict(pairs) -/
def dctD : D → Option D
  | .lst l => (prsD l).map fun p => let q := mrgD [] [] p.1 p.2; .dic q.1 q.2
  | .tpx l => (prsD l).map fun p => let q := mrgD [] [] p.1 p.2; .dic q.1 q.2
  | _ => none
def itemsL : List Key → List D → List D
  | k :: ks, v :: vs => .tup [keyE k, v] :: itemsL ks vs
  | _, _ => []
def itmD : D → Option (List D)
  | .dic ks vs => some (itemsL ks vs)
  | _ => none
def zipL : List D → List D → List D
  | x :: xs, y :: ys => .tup [x, y] :: zipL xs ys
  | _, _ => []
def zipD : D → D → Option (List D)
  | .lst a, .lst b => some (zipL a b)
  | .tup a, .tup b => some (zipL a b)
  | .tup a, .tpx b => some (zipL a b)
  | _, _ => none
/-- lo, lo + c, .. (n of them) -/
def rngD (lo c : Int) : Nat → List D
  | 0 => []
  | n + 1 => .int lo :: rngD (lo + c) c n
def smallI (i : Int) : Bool := decide (i.natAbs.log2 < 61)
def rng2D (a b : D) : Option (List D) := match a, b with
  | .int i, .int j => if (smallI i && smallI j) = true then some (rngD i 1 (j - i).toNat) else none
  | _, _ => none
def rng3D (a b c : D) : Option (List D) := match a, b, c with
  | .int i, .int j, .int k => if k ≠ 0 ∧ k.natAbs < 1073741824 ∧ Builtin.Range.small i j k = true ∧ 0 ≤ Builtin.Range.rangeSize i j k then some (rngD i k (Builtin.Range.rangeSize i j k).toNat) else none
  | _, _, _ => none
def enmL (i : Nat) : List D → List D
  | [] => []
  | x :: xs => .tup [.int i, x] :: enmL (i + 1) xs
/-- a list's, a tuple's items -/
def seD : D → Option (List D)
  | .tup l => some l
  | .lst l => some l
  | _ => none
def itD : D → Option (List D)
  | .tup l => some l
  | .str x => some (chars x)
  | .lst l => some l
  | .tpx l => some l
  | _ => none
mutual
def asgT : Tg → Rv → List Rv → Option (List Rv)
  | .nm i, r, σ => if i < σ.length then some (σ.set i r) else none
  | .tp ts, .val (.tup l), σ => asgTs ts l σ
  | .tp ts, .val (.tpx l), σ => asgTs ts l σ
  | .tp _, _, _ => none
def asgTs : Tgs → List D → List Rv → Option (List Rv)
  | .nil, [], σ => some σ
  | .cons t ts, x :: xs, σ => (asgT t (.val x) σ).bind fun σ => asgTs ts xs σ
  | _, _, _ => none
end
def wipeR (σ : List Rv) : List Nat → List Rv
  | [] => σ
  | i :: is => (wipeR σ is).set i .un
def backR (σ0 σ : List Rv) : List Nat → List Rv
  | [] => σ
  | i :: is => (backR σ0 σ is).set i (σ0.getD i .un)
def noOwn (σ : List Rv) (is : List Nat) : Bool := is.all fun i => match σ.getD i .un with
  | .mls _ => false
  | _ => true
mutual
/-- no object by number in it -/
def rfB0 : D → Bool
  | .tup l => rfB0s l
  | .tpx l => rfB0s l
  | .lst l => rfB0s l
  | .dic _ l => rfB0s l
  | .ref _ => false
  | _ => true
def rfB0s : List D → Bool
  | [] => true
  | x :: xs => rfB0 x && rfB0s xs
end
/-- sorted by keys -/
def srkL (l ks : List D) : List D := ((l.zip ks).mergeSort (PySem.W.dataLe false fun p : D × D => toPy p.2)).map (·.1)
def opt {α : Type} (o : Option α) : Res α := match o with
  | some a => .ok a
  | none => .bad

/-! ### the evaluator -/
abbrev Calls := Nat → List D → Mem → Res (Rv × Mem)
/-- the keys that a def gives, each by itself -/
def keysC (C : Calls) (f : Nat) : List D → Option (List D)
  | [] => some []
  | x :: xs => if rfB0 x = true then (match C f [x] [] with
    | .ok (.val k, _) => (keysC C f xs).map fun ks => k :: ks
    | _ => none)
    else none
def srkD (C : Calls) (f : Nat) (l : List D) : Option (List D) := (keysC C f l).bind fun ks => if cmOk ks = true then some (srkL l ks) else none
/-- a comprehension's turns -/
def lcL (step : D → S → Res (Option D × S)) : List D → S → List D → Res (List D × S)
  | [], s, acc => .ok (acc, s)
  | x :: xs, s, acc => (step x s).b2 fun y s => match y with
    | some y => lcL step xs s (acc ++ [y])
    | none => lcL step xs s acc
/-- any, all of a generator expression -/
def gaL (al : Bool) (step : D → S → Res (Option Bool × S)) : List D → S → Res (Bool × S)
  | [], s => .ok (al, s)
  | x :: xs, s => (step x s).b2 fun o s => match o with
    | some b => if b = al then gaL al step xs s else .ok (b, s)
    | none => gaL al step xs s
/-- captured names: their lists are shared from now on -/
def shr : List Nat → List Rv → List Rv
  | [], σ => σ
  | i :: is, σ => match (shr is σ)[i]? with
    | some (.mls l) => (shr is σ).set i (.val (.lst l))
    | _ => shr is σ
/-- what a generator expression sees -/
def mskR (cs : List Nat) (σ : List Rv) : List Rv := σ.mapIdx fun i x => if i ∈ cs then x else .un
inductive Out where
  | nx | ret (r : Rv) | brk | cnt
def forL (step : D → S → Res (Out × S)) : List D → S → Res (Out × S)
  | [], s => .ok (.nx, s)
  | x :: xs, s => (step x s).b2 fun o s => match o with
    | .nx => forL step xs s
    | .cnt => forL step xs s
    | .brk => .ok (.nx, s)
    | .ret r => .ok (.ret r, s)
def whL (test : S → Res (Bool × S)) (step : S → Res (Out × S)) : Nat → S → Res (Out × S)
  | 0, _ => .bad
  | n + 1, s => (test s).b2 fun b s => if b = true then (step s).b2 fun o s => match o with
      | .nx => whL test step n s
      | .cnt => whL test step n s
      | .brk => .ok (.nx, s)
      | .ret r => .ok (.ret r, s)
    else .ok (.nx, s)
/-- how many turns a while may take -/
def whMost : Nat := 4194304
def isNon : D → Bool
  | .non => true
  | _ => false
/-- a value's truth -/
def truD : D → Option Bool
  | .non => some false
  | .bl b => some b
  | .int i => some (i != 0)
  | .str x => if x.length ≤ sizeLine then some ((x.length : Int) != 0) else none
  | .tup l => some (!l.isEmpty)
  | .lst l => some (!l.isEmpty)
  | .dic _ _ => none
  | .ref _ => none
  | .tpx _ => none
def blOf : Rv → Res Bool
  | .val (.bl b) => .ok b
  | _ => .bad
/-- a name read: a list that is owned is shared from now on -/
def rdV (i : Nat) (s : S) : Res (Rv × S) := match s.σ[i]? with
  | some (.val d) => .ok (.val d, s)
  | some (.mls l) => .ok (.val (.lst l), { s with σ := s.σ.set i (.val (.lst l)) })
  | _ => .bad
variable (C : Calls) (K : Nat → D)
mutual
def evE : E → S → Res (Rv × S)
  | .none, s => .ok (.val .non, s)
  | .bl b, s => .ok (.val (.bl b), s)
  | .int i, s => .ok (.val (.int i), s)
  | .str x, s => .ok (.val (.str x), s)
  | .cst n, s => .ok (.val (K n), s)
  | .v i, s => rdV i s
  | .tup es, s => (evEs es s).b2 fun l s => if l.length ≤ seqLine then .ok (.val (.tup l), s) else .bad
  | .lst es, s => (evEs es s).b2 fun l s => if l.length ≤ seqLine then .ok (.mls l, s) else .bad
  | .rls es, s => (evEs es s).b2 fun l s => if l.length ≤ seqLine then .ok (.val (.ref s.M.length), { s with M := s.M ++ [.l l] }) else .bad
  | .rlist a, s => (evE a s).b2 fun x s => match x.fz with
    | .lst l => .ok (.val (.ref s.M.length), { s with M := s.M ++ [.l l] })
    | .tup l => .ok (.val (.ref s.M.length), { s with M := s.M ++ [.l l] })
    | _ => .bad
  | .rcat a b, s => (evE a s).b2 fun x s => (evE b s).b2 fun y s => (opt (binD .add (drD s.M x.fz) (drD s.M y.fz))).bind fun r => match r with
    | .mls l => .ok (.val (.ref s.M.length), { s with M := s.M ++ [.l l] })
    | r => .ok (r, s)
  | .rdc, s => .ok (.val (.ref s.M.length), { s with M := s.M ++ [.d [] []] })
  | .srt a, s => (evE a s).b2 fun x s => (opt (srtD (drD s.M x.fz))).bind fun r => .ok (.mls r, s)
  | .srk a f, s => (evE a s).b2 fun x s => match drD s.M x.fz with
    | .lst l => (opt (srkD C f l)).bind fun r => .ok (.mls r, s)
    | _ => .bad
  | .sti a, s => (evE a s).b2 fun x s => match x.fz with
    | .int i => if i.natAbs.log2 < 1920 then .ok (.val (.str (toString i)), s) else .bad
    | _ => .bad
  | .isu a t u, s => (evE a s).b2 fun x s => (opt ((isTy t x.fz).bind fun p => (isTy u x.fz).map fun q => p || q)).bind fun r => .ok (.val (.bl r), s)
  | .rev a, s => (evE a s).b2 fun x s => (opt (revD (drD s.M x.fz))).bind fun r => .ok (r, s)
  | .dct a, s => (evE a s).b2 fun x s => (opt (dctD (drX s.M x.fz))).bind fun r => .ok (.val r, s)
  | .tpl a, s => (evE a s).b2 fun x s => match drD s.M x.fz with
    | .lst l => .ok (.val (.tpx l), s)
    | _ => .bad
  | .itm a, s => (evE a s).b2 fun x s => (opt (itmD (drD s.M x.fz))).bind fun r => .ok (.mls r, s)
  | .dsp ps, s => (evEs ps s).b2 fun l s => (opt (dspD l)).bind fun d => .ok (.val d, s)
  | .neg a, s => (evE a s).b2 fun x s => match x with
    | .val (.int i) => .ok (.val (.int (-i)), s)
    | _ => .bad
  | .bin o a b, s => (evE a s).b2 fun x s => (evE b s).b2 fun y s => (opt (binD o (drD s.M x.fz) (drD s.M y.fz))).bind fun r => .ok (r, s)
  | .cmp o a b, s => (evE a s).b2 fun x s => (evE b s).b2 fun y s => (opt (cmpD o (drD s.M x.fz) (drD s.M y.fz))).bind fun r => .ok (.val (.bl r), s)
  | .chn o p a b c, s => (evE a s).b2 fun x s => (evE b s).b2 fun y s => (opt (cmpD o (drD s.M x.fz) (drD s.M y.fz))).bind fun r =>
      if r = true then (evE c s).b2 fun z s => (opt (cmpD p (drD s.M y.fz) (drD s.M z.fz))).bind fun r => .ok (.val (.bl r), s) else .ok (.val (.bl false), s)
  | .isn a, s => (evE a s).b2 fun x s => .ok (.val (.bl (isNon x.fz)), s)
  | .notn a, s => (evE a s).b2 fun x s => .ok (.val (.bl (!isNon x.fz)), s)
  | .and a b, s => (evE a s).b2 fun x s => (blOf x).bind fun k => if k = true then evE b s else .ok (.val (.bl false), s)
  | .or a b, s => (evE a s).b2 fun x s => (blOf x).bind fun k => if k = true then .ok (.val (.bl true), s) else evE b s
  | .not a, s => (evE a s).b2 fun x s => (blOf x).bind fun k => .ok (.val (.bl (!k)), s)
  | .ife c a b, s => (evB c s).b2 fun k s => if k = true then evE a s else evE b s
  | .ix a b, s => (evE a s).b2 fun x s => (evE b s).b2 fun y s => (opt (ixD (drD s.M x.fz) y.fz)).bind fun r => .ok (.val r, s)
  | .sl a lo hi, s => (evE a s).b2 fun x s => ((evE lo s).b2 fun y s => (opt (partD (isNo lo) y.fz)).bind fun l => .ok (l, s)).b2 fun l s =>
      ((evE hi s).b2 fun z s => (opt (partD (isNo hi) z.fz)).bind fun h => .ok (h, s)).b2 fun h s => (opt (slD (drD s.M x.fz) l h)).bind fun r => .ok (r, s)
  | .isi a t, s => (evE a s).b2 fun x s => (opt (isTy t x.fz)).bind fun r => .ok (.val (.bl r), s)
  | .call f es, s => (evEs es s).b2 fun l s => (C f l s.M).bind fun r => .ok (r.1, { s with M := r.2 })
  | .bi f a, s => (evE a s).b2 fun x s => (opt (biD f (drD s.M x.fz))).bind fun r => .ok (r, s)
  | .get2 a k d, s => (evE a s).b2 fun x s => if isDicD (drD s.M x.fz) = true then (evE k s).b2 fun y s => (evE d s).b2 fun z s => (opt (getD2 (drD s.M x.fz) y.fz z.fz)).bind fun r => .ok (.val r, s) else .bad
  | .pop0 a, s => (evE a s).b2 fun x s => match x.fz with
    | .ref n => (match s.M[n]? with
      | some (.l (y :: ys)) => .ok (.val y, { s with M := s.M.set n (.l ys) })
      | _ => .bad)
    | _ => .bad
  | .popl a, s => (evE a s).b2 fun x s => match x.fz with
    | .ref n => (match s.M[n]? with
      | some (.l l) => (match l[l.length - 1]? with
        | some y => .ok (.val y, { s with M := s.M.set n (.l l.dropLast) })
        | none => .bad)
      | _ => .bad)
    | _ => .bad
  | .lc vs tg it c elt, s => (evI it s).b2 fun l s => if noOwn s.σ vs = true ∧ l.length ≤ seqLine then
      (lcL (fun x s => (opt (asgT tg (.val x) (wipeR s.σ vs))).bind fun σ => (evB c { s with σ := σ }).b2 fun k s =>
          if k = true then (evE elt s).b2 fun y s => .ok (some y.fz, { s with σ := wipeR s.σ vs }) else .ok (none, { s with σ := wipeR s.σ vs })) l s []).b2 fun r s' =>
        .ok (.mls r, { s' with σ := backR s.σ s'.σ vs })
      else .bad
  | .ga al cs tg it c elt, s => (evI it s).b2 fun l s => if noOwn (shr cs s.σ) cs = true then
      (gaL al (fun x t => (opt (asgT tg (.val x) (mskR cs (shr cs s.σ)))).bind fun σ => (evB c { t with σ := σ }).b2 fun k t =>
          if k = true then (evE elt t).b2 fun y t => (blOf y).bind fun b => .ok (some b, t) else .ok (none, t)) l s).b2 fun k t =>
        .ok (.val (.bl k), { t with σ := shr cs s.σ })
      else .bad
def evEs : Es → S → Res (List D × S)
  | .nil, s => .ok ([], s)
  | .cons e es, s => (evE e s).b2 fun x s => (evEs es s).b2 fun xs s => .ok (x.fz :: xs, s)
/-- what is walked -/
def evI : I → S → Res (List D × S)
  | .rng1 a, s => (evE a s).b2 fun x s => (opt (rng2D (.int 0) x.fz)).bind fun l => .ok (l, s)
  | .rng2 a b, s => (evE a s).b2 fun x s => (evE b s).b2 fun y s => (opt (rng2D x.fz y.fz)).bind fun l => .ok (l, s)
  | .rng3 a b c, s => (evE a s).b2 fun x s => (evE b s).b2 fun y s => (evE c s).b2 fun z s => (opt (rng3D x.fz y.fz z.fz)).bind fun l => .ok (l, s)
  | .enm a, s => (evE a s).b2 fun x s => (opt (seD x.fz)).bind fun l => .ok (enmL 0 l, s)
  | .of e, s => (evE e s).b2 fun x s => (opt (itD x.fz)).bind fun l => .ok (l, s)
  | .zip a b, s => (evE a s).b2 fun x s => (evE b s).b2 fun y s => (opt (zipD x.fz y.fz)).bind fun l => .ok (l, s)
/-- a test -/
def evB : B → S → Res (Bool × S)
  | .of e, s => (evE e s).b2 fun x s => (opt (truD (drD s.M x.fz))).bind fun k => .ok (k, s)
  | .and a b, s => (evB a s).b2 fun k s => if k = true then evB b s else .ok (false, s)
  | .or a b, s => (evB a s).b2 fun k s => if k = true then .ok (true, s) else evB b s
  | .not a, s => (evB a s).b2 fun k s => .ok (!k, s)
  | .yes, s => .ok (true, s)
end
def isStrD : D → Bool
  | .str _ => true
  | _ => false
/-- a list of a name's own, or by number -/
def isL (s : S) (i : Nat) : Bool := match s.σ[i]? with
  | some (.mls _) => true
  | some (.val (.ref n)) => (match s.M[n]? with
    | some (.l _) => true
    | _ => false)
  | _ => false
mutual
def evS : T → S → Res (Out × S)
  | .asg tg e, s => (evE C K e s).b2 fun x s => (opt (asgT tg x s.σ)).bind fun σ => .ok (.nx, { s with σ := σ })
  | .aug i o e, s => match s.σ[i]? with
    | some (.val (.int a)) => (evE C K e s).b2 fun y s => (match o, y with
      | .add, .val (.int b) => .ok (.nx, { s with σ := s.σ.set i (.val (.int (a + b))) })
      | .sub, .val (.int b) => .ok (.nx, { s with σ := s.σ.set i (.val (.int (a - b))) })
      | _, _ => .bad)
    | _ => .bad
  | .setix a i e, s => (evE C K e s).b2 fun z s => (evE C K a s).b2 fun x s => (evE C K i s).b2 fun y s => match x.fz, y.fz with
    | .ref n, yv => (match s.M[n]? with
      | some (.l l) => (match yv with
        | .int k => (match L2.ixN l.length k with
          | some j => .ok (.nx, { s with M := s.M.set n (.l (l.set j z.fz)) })
          | none => .bad)
        | _ => .bad)
      | some (.d ks vs) => (match keyD yv with
        | some k => if ks.length < sizeLine then .ok (.nx, { s with M := s.M.set n (let p := putD ks vs k z.fz; .d p.1 p.2) }) else .bad
        | none => .bad)
      | none => .bad)
    | _, _ => .bad
  | .app i e, s => if isL s i = true then (evE C K e s).b2 fun y s => match s.σ[i]? with
    | some (.mls l) => if l.length < seqLine then .ok (.nx, { s with σ := s.σ.set i (.mls (l ++ [y.fz])) }) else .bad
    | some (.val (.ref n)) => (match s.M[n]? with
      | some (.l l) => if l.length < seqLine then .ok (.nx, { s with M := s.M.set n (.l (l ++ [y.fz])) }) else .bad
      | _ => .bad)
    | _ => .bad
    else .bad
  | .ext i e, s => if isL s i = true then (evE C K e s).b2 fun y s => match s.σ[i]? with
    | some (.mls l) => (match seD y.fz with
      | some z => if l.length + z.length ≤ seqLine then .ok (.nx, { s with σ := s.σ.set i (.mls (l ++ z)) }) else .bad
      | none => .bad)
    | some (.val (.ref n)) => (match s.M[n]? with
      | some (.l l) => (match seD y.fz with
        | some z => if l.length + z.length ≤ seqLine then .ok (.nx, { s with M := s.M.set n (.l (l ++ z)) }) else .bad
        | none => .bad)
      | _ => .bad)
    | _ => .bad
    else .bad
  | .par i j a b, s => (evE C K a s).b2 fun x s => (evE C K b s).b2 fun y s => if i < s.σ.length ∧ j < s.σ.length then .ok (.nx, { s with σ := (s.σ.set i (.val x.fz)).set j (.val y.fz) }) else .bad
  | .par3 i j k a b c, s => (evE C K a s).b2 fun x s => (evE C K b s).b2 fun y s => (evE C K c s).b2 fun z s => if i < s.σ.length ∧ j < s.σ.length ∧ k < s.σ.length then .ok (.nx, { s with σ := ((s.σ.set i (.val x.fz)).set j (.val y.fz)).set k (.val z.fz) }) else .bad
  | .ex e, s => (evE C K e s).b2 fun _ s => .ok (.nx, s)
  | .ret e, s => (evE C K e s).b2 fun x s => .ok (.ret x, s)
  | .rtv i, s => match s.σ[i]? with
    | some (.val d) => .ok (.ret (.val d), s)
    | some (.mls l) => .ok (.ret (.mls l), { s with σ := s.σ.set i .un })
    | _ => .bad
  | .retn, s => .ok (.ret (.val .non), s)
  | .pass, s => .ok (.nx, s)
  | .brk, s => .ok (.brk, s)
  | .cnt, s => .ok (.cnt, s)
  | .iff c a b, s => (evB C K c s).b2 fun k s => if k = true then evSs a s else evSs b s
  | .fr tg it b, s => (evI C K it s).b2 fun l s => forL (fun x s => (opt (asgT tg (.val x) s.σ)).bind fun σ => evSs b { s with σ := σ }) l s
  | .wh c b, s => whL (evB C K c) (evSs b) whMost s
def evSs : Ts → S → Res (Out × S)
  | .nil, s => .ok (.nx, s)
  | .cons t ts, s => (evS t s).b2 fun o s => match o with
    | .nx => evSs ts s
    | o => .ok (o, s)
end
/-- a def: how many parameters, how many names, its body -/
structure Fd where
  ar : Nat
  ns : Nat
  body : Ts
mutual
/-- no number from n on -/
def rfB (n : Nat) : D → Bool
  | .tup l => rfBs n l
  | .tpx l => rfBs n l
  | .lst l => rfBs n l
  | .dic _ l => rfBs n l
  | .ref m => decide (m < n)
  | _ => true
def rfBs (n : Nat) : List D → Bool
  | [] => true
  | x :: xs => rfB n x && rfBs n xs
end
def rvB (n : Nat) : Rv → Bool
  | .val d => rfB n d
  | .mls l => rfBs n l
  | .un => true
def moB (n : Nat) : MO → Bool
  | .l l => rfBs n l
  | .d _ l => rfBs n l
/-- a list that the call has made, handed back: nobody else has it -/
def relR (n : Nat) : Rv → Mem → Rv
  | .val (.ref m), M => (match M[m]? with
    | some (.l l) => if n ≤ m ∧ (rfBs n l && (M.take n).all (moB n)) = true then .mls l else .val (.ref m)
    | _ => .val (.ref m))
  | r, _ => r
/-- what nobody has any more is forgotten -/
def trim (n : Nat) (r : Rv) (M : Mem) : Mem := if M.length ≤ n then M else if (rvB n r && (M.take n).all (moB n)) = true then M.take n else M
def runF (C : Calls) (K : Nat → D) (f : Fd) (ds : List D) (M : Mem) : Res (Rv × Mem) :=
  if ds.length = f.ar then
    match evSs C K f.body ⟨ds.map Rv.val ++ List.replicate (f.ns - ds.length) .un, M⟩ with
    | .ok (.nx, s) => .ok (.val .non, trim M.length (.val .non) s.M)
    | .ok (.ret r, s) => .ok (relR M.length r s.M, trim M.length (relR M.length r s.M) s.M)
    | .ok _ => .bad
    | .exc x => .exc x
    | .bad => .bad
  else .bad
def calls (P : List Fd) (K : Nat → D) : Nat → Calls
  | 0, _, _, _ => .bad
  | n + 1, f, ds, M => match P[f]? with
    | some fd => runF (calls P K n) K fd ds M
    | none => .bad

/-! ### from the model's syntax -/
/-- what a global name is: a def by its number, data by its number, a built-in -/
inductive Gv where | fn (i ar : Nat) | cst (n : Nat) | blt
structure Cc where
  N : List Str
  sc : Scope
  fn : Str → Bool
  gt : List (Str × Gv)
  /-- new lists are told by number -/
  rf : Bool
  /-- how deep generator expressions may stand here -/
  gl : Nat
  /-- names whose lists are told by number -/
  rn : List Str
def idx (x : Str) : List Str → Option Nat
  | [] => none
  | y :: ys => if y = x then some 0 else (idx x ys).map (· + 1)
def visB (sc : Scope) (x : Str) : Bool := match sc.names.lookup x with
  | some .local => true
  | some .cell => true
  | some .free => true
  | _ => false
def okName (x : Str) : Bool := !(x == ("__debug__" : Str)) && !(x == ("__classdict__" : Str)) && !(x == ("__name__" : Str))
/-- the slot of a name of the def's own -/
def slotR (c : Cc) (x : Str) : Option Nat := if (visB c.sc x && okName x) = true then idx x c.N else none
/-- .. that may be stored -/
def locB (c : Cc) (x : Str) : Bool := match c.sc.names.lookup x with
  | some .local => true
  | some .cell => c.fn x
  | _ => false
def slotW (c : Cc) (x : Str) : Option Nat := if (locB c x && okName x) = true then idx x c.N else none
def globV (c : Cc) (x : Str) : Option Gv := if okName x = true then (match c.sc.names.lookup x with | some .globalImplicit => c.gt.lookup x | _ => none) else none
/-- is it that built-in -/
def isBlt (c : Cc) (x y : Str) : Bool := decide (x = y) && (match globV c x with | some .blt => true | _ => false)
def mapO {α β : Type} (f : α → Option β) : List α → Option (List β)
  | [] => some []
  | x :: xs => (f x).bind fun y => (mapO f xs).map fun ys => y :: ys
def toEs : List E → Es
  | [] => .nil
  | e :: es => .cons e (toEs es)
def bopO : Operator → Option Bop
  | .Add => some .add | .Sub => some .sub | .Mult => some .mul | .FloorDiv => some .fdiv | .Mod => some .mod | _ => none
def copO : CmpOp → Option Cop
  | .Eq => some .eq | .NotEq => some .ne | .Lt => some .lt | .LtE => some .le | .Gt => some .gt | .GtE => some .ge | .In => some .isin | .NotIn => some .notin | _ => none
def biO (x : Str) : Option Bi :=
  if x = "len" then some .len else if x = "tuple" then some .tuple else if x = "list" then some .list else if x = "int" then some .int
  else if x = "sum" then some .sum else if x = "all" then some .all else if x = "any" then some .any else none
def tyO (x : Str) : Option Ty :=
  if x = "int" then some .int else if x = "bool" then some .bool else if x = "str" then some .str else if x = "tuple" then some .tuple
  else if x = "list" then some .list else if x = "dict" then some .dict else none
def isSet : Expr → Bool
  | .Set .. => true
  | _ => false
def isStar : Expr → Bool
  | .Starred .. => true
  | _ => false
def isSlice : Expr → Bool
  | .Slice .. => true
  | _ => false
/-- the names of a comprehension's own, with their slots -/
def ownOf (c : Cc) (scope : Scope) : List (Str × Nat) := scope.names.filterMap fun y => match y.2 with
  | .local => (idx y.1 c.N).map fun i => (y.1, i)
  | .cell => (idx y.1 c.N).map fun i => (y.1, i)
  | _ => none
def inner (c : Cc) (scope : Scope) : Cc := { c with sc := L2.relS scope c.sc, fn := fun x => scope.names.lookup x == some .cell }
def isZip : Expr → Bool
  | .Call (.Name f _) _ _ _ => f == "zip"
  | _ => false
/-- [::-1] -/
def isRev : Option Expr → Option Expr → Option Expr → Bool
  | none, none, some (.UnaryOp .USub (.Constant (.int 1) _ _) _) => true
  | _, _, _ => false
def isTup : Expr → Bool
  | .Tuple .. => true
  | _ => false
def baseOk : Expr → Bool
  | .Call (.Name f _) [] [] _ => !(f == "super")
  | _ => true
def isLst : Expr → Bool
  | .List .. => true
  | _ => false
/-- a generator expression's names; those that it captures -/
def innerG (c : Cc) (scope : Scope) : Cc := { c with sc := scope, fn := fun _ => false, gl := 0 }
def capsOf (c : Cc) (scope : Scope) : List Nat := scope.names.filterMap fun y => match y.2 with
  | .free => idx y.1 c.N
  | _ => none
def gscB (c : Cc) (scope : Scope) : Bool :=
  (match scope.kind with | .function => true | _ => false) && !scope.isCoroutine && (scope.names.all fun y => !(y.2 == .cell)) && (scope.names.lookup (".0" : Str) == some .local) &&
    (scope.names.all fun y => scope.names.lookup y.1 == some y.2) && (scope.names.all fun y => !(y.2 == .free) || c.sc.names.lookup y.1 == some .cell || c.sc.names.lookup y.1 == some .free)
mutual
def cTg (c : Cc) : Nat → Expr → Option Tg
  | n + 1, .Name x _ => (slotW c x).map .nm
  | n + 1, .Tuple es _ _ => (cTgs c n es).map .tp
  | _, _ => none
def cTgs (c : Cc) : Nat → List Expr → Option Tgs
  | n + 1, [] => some .nil
  | n + 1, e :: es => (cTg c n e).bind fun t => (cTgs c n es).map fun ts => .cons t ts
  | _, _ => none
end
mutual
def slots : Tg → List Nat
  | .nm i => [i]
  | .tp ts => slotss ts
def slotss : Tgs → List Nat
  | .nil => []
  | .cons t ts => slots t ++ slotss ts
end
/-- (T, U), two classes -/
def twoTy (c : Cc) (e : Expr) : Option (Ty × Ty) := match e with
  | .Tuple [.Name t _, .Name u _] _ _ => if isBlt c t t = true ∧ isBlt c u u = true then (tyO t).bind fun a => (tyO u).map fun b => (a, b) else none
  | _ => none
/-- sorted(.., key=f) -/
def keyFn (c : Cc) (f : Str) (kws : List Keyword) : Option Nat := match kws with
  | [⟨some k, .Name x _, _⟩] => if isBlt c f "sorted" = true ∧ k = "key" ∧ 1 ≤ c.gl then (match globV c x with
    | some (.fn i ar) => if ar = 1 then some i else none
    | _ => none) else none
  | _ => none
mutual
def cE : Nat → Cc → Expr → Option E
  | n + 1, _, .Constant .none _ _ => some .none
  | n + 1, _, .Constant (.bool b) _ _ => some (.bl b)
  | n + 1, _, .Constant (.int i) _ _ => some (.int i)
  | n + 1, _, .Constant (.str x) _ _ => some (.str x)
  | n + 1, c, .Name x _ => match slotR c x with
    | some i => some (.v i)
    | none => (match globV c x with
      | some (.cst i) => some (.cst i)
      | _ => none)
  | n + 1, c, .Tuple es _ _ => (cEs n c es).map .tup
  | n + 1, c, .List es _ => (cEs n c es).map fun es => if c.rf = true then .rls es else .lst es
  | n + 1, c, .UnaryOp .USub a _ => (cE n c a).map .neg
  | n + 1, c, .UnaryOp .Not a _ => (cE n c a).map .not
  | n + 1, c, .BinOp a o b _ => (bopO o).bind fun o => (cE n c a).bind fun a => (cE n c b).map fun b => if (c.rf && o == .add) = true then .rcat a b else .bin o a b
  | n + 1, c, .Compare a [.Is] [.Constant .none _ _] _ => (cE n c a).map .isn
  | n + 1, c, .Compare a [.IsNot] [.Constant .none _ _] _ => (cE n c a).map .notn
  | n + 1, c, .Compare a [o, p] [b, d] _ => if isSet d = true then none else (copO o).bind fun o => (copO p).bind fun p => (cE n c a).bind fun a => (cE n c b).bind fun b => (cE n c d).map fun d => .chn o p a b d
  | n + 1, c, .Compare a [o] [b] _ => if isSet b = true then none else (copO o).bind fun o => (cE n c a).bind fun a => (cE n c b).map fun b => .cmp o a b
  | n + 1, c, .BoolOp .And [a, b] _ => (cE n c a).bind fun a => (cE n c b).map fun b => .and a b
  | n + 1, c, .BoolOp .And (a :: b :: d :: r) p => (cE n c a).bind fun a => (cE n c (.BoolOp .And (b :: d :: r) p)).map fun b => .and a b
  | n + 1, c, .BoolOp .Or [a, b] _ => (cE n c a).bind fun a => (cE n c b).map fun b => .or a b
  | n + 1, c, .BoolOp .Or (a :: b :: d :: r) p => (cE n c a).bind fun a => (cE n c (.BoolOp .Or (b :: d :: r) p)).map fun b => .or a b
  | n + 1, c, .IfExp t a b _ => (cB n c t).bind fun t => (cE n c a).bind fun a => (cE n c b).map fun b => .ife t a b
  | n + 1, c, .Subscript a (.Slice lo hi none _) _ => (cE n c a).bind fun a => (cO n c lo).bind fun lo => (cO n c hi).map fun hi => .sl a lo hi
  | n + 1, c, .Subscript a (.Slice lo hi (some st) _) _ => if isRev lo hi (some st) = true then (cE n c a).map .rev else none
  | n + 1, c, .Subscript a b _ => if isSlice b = true then none else (cE n c a).bind fun a => (cE n c b).map fun b => .ix a b
  | n + 1, c, .Call (.Name f _) [.GeneratorExp elt [⟨tg, it, ifs, 0⟩] scope _] [] _ =>
    if (isBlt c f "all" || isBlt c f "any") = true then (if gscB c scope = true ∧ c.gl = 2 ∧ (isSet it || isLst it) = false then
        (cI n c tg it).bind fun it => (cTg (innerG c scope) n tg).bind fun tg => if (slots tg).all (fun i => !(capsOf c scope).contains i) = true then
          (match ifs with
            | [] => (cE n (innerG c scope) elt).map fun elt => .ga (f == "all") (capsOf c scope) tg it .yes elt
            | [t] => (cB n (innerG c scope) t).bind fun t => (cE n (innerG c scope) elt).map fun elt => .ga (f == "all") (capsOf c scope) tg it t elt
            | _ => none)
          else none
        else none)
      else none
  | n + 1, c, .Call (.Name f _) [a, .Name t tp] [] _ => if isBlt c f "isinstance" = true ∧ isBlt c t t = true then (if isStar a = true then none else (cE n c a).bind fun a => (tyO t).map fun t => .isi a t)
    else (match globV c f with
      | some (.fn i ar) => if ar = 2 then (cEs n c [a, .Name t tp]).map fun es => .call i es else none
      | _ => none)
  | n + 1, c, .Call (.Name f _) [.Call (.Attribute o "items" ap) [] [] cp] [] _ => if (isBlt c f "list" = true ∧ (ap.endLine == cp.line) = true ∧ baseOk o = true ∧ c.rf = false) then (cE n c o).map .itm else none
  | n + 1, c, .Call (.Name f _) args [] _ => match globV c f with
    | some (.fn i ar) => if ar = args.length then (cEs n c args).map fun es => .call i es else none
    | some .blt => (match args with
      | [a] => if isStar a = true then none else if f = "sorted" then (cE n c a).map .srt else if f = "dict" then (cE n c a).map .dct else if f = "str" then (cE n c a).map .sti else
        (biO f).bind fun f => (cE n c a).map fun a => if (c.rf && f == .list) = true then .rlist a else if (f == .tuple && c.rn.contains "tuple") = true then .tpl a else .bi f a
      | [a, b] => (match twoTy c b with
        | some (t, u) => if f = "isinstance" ∧ isStar a = false then (cE n c a).map fun a => .isu a t u else none
        | none => none)
      | _ => none)
    | _ => none
  | n + 1, c, .Call (.Name f _) args (kw :: kws) _ => (match args with
    | [a] => (match keyFn c f (kw :: kws) with
      | some i => if isStar a = false then (cE n c a).map fun a => .srk a i else none
      | none => none)
    | _ => none)
  | n + 1, c, .Call (.Attribute o "get" ap) [k, d] [] cp => if (ap.endLine == cp.line) = true ∧ (isStar k || isStar d) = false ∧ baseOk o = true then (cE n c o).bind fun o => (cE n c k).bind fun k => (cE n c d).map fun d => .get2 o k d else none
  | n + 1, c, .Call (.Attribute o "pop" ap) [.Constant (.int 0) _ _] [] cp => if (ap.endLine == cp.line) = true ∧ baseOk o = true then (cE n c o).map .pop0 else none
  | n + 1, c, .Call (.Attribute o "pop" ap) [] [] cp => if (ap.endLine == cp.line) = true ∧ baseOk o = true then (cE n c o).map .popl else none
  | n + 1, _, .Dict [] [] _ => some .rdc
  | n + 1, c, .Dict ks vs _ => if ks.all (·.isSome) = true ∧ ks.length = vs.length ∧ ks.isEmpty = false ∧ ks.length ≤ 15 then (cPs n c ks vs).map .dsp else none
  | n + 1, c, .ListComp elt [⟨tg, it, ifs, 0⟩] scope _ => (cI n c tg it).bind fun it => (cTg (inner c scope) n tg).bind fun tg =>
      if L2.blkC c.N c.sc scope (ownOf c scope) = true ∧ (slots tg).all (fun i => ((ownOf c scope).map (·.2)).contains i) = true then
        (match ifs with
          | [] => (cE n (inner c scope) elt).map fun elt => .lc ((ownOf c scope).map (·.2)) tg it .yes elt
          | [t] => (cB n (inner c scope) t).bind fun t => (cE n (inner c scope) elt).map fun elt => .lc ((ownOf c scope).map (·.2)) tg it t elt
          | _ => none)
      else none
  | _, _, _ => none
def cEs : Nat → Cc → List Expr → Option Es
  | n + 1, _, [] => some .nil
  | n + 1, c, e :: es => if isStar e = true then none else (cE n c e).bind fun e => (cEs n c es).map fun es => .cons e es
  | _, _, _ => none
def cPs : Nat → Cc → List (Option Expr) → List Expr → Option Es
  | n + 1, _, [], [] => some .nil
  | n + 1, c, some k :: ks, v :: vs => (cE n c k).bind fun k => (cE n c v).bind fun v => (cPs n c ks vs).map fun r => .cons k (.cons v r)
  | _, _, _, _ => none
def cO : Nat → Cc → Option Expr → Option E
  | n + 1, _, none => some .none
  | n + 1, c, some e => (cE n c e).bind fun i => if isNo i = true then none else some i
  | _, _, _ => none
def cB : Nat → Cc → Expr → Option B
  | n + 1, c, .BoolOp .And [a, b] _ => (cB n c a).bind fun a => (cB n c b).map fun b => .and a b
  | n + 1, c, .BoolOp .And (a :: b :: d :: r) p => (cB n c a).bind fun a => (cB n c (.BoolOp .And (b :: d :: r) p)).map fun b => .and a b
  | n + 1, c, .BoolOp .Or [a, b] _ => (cB n c a).bind fun a => (cB n c b).map fun b => .or a b
  | n + 1, c, .BoolOp .Or (a :: b :: d :: r) p => (cB n c a).bind fun a => (cB n c (.BoolOp .Or (b :: d :: r) p)).map fun b => .or a b
  | n + 1, c, .UnaryOp .Not a _ => (cB n c a).map .not
  | n + 1, c, .IfExp .. => none
  | n + 1, c, e => (cE n c e).map .of
  | _, _, _ => none
def cI : Nat → Cc → Expr → Expr → Option I
  | n + 1, c, tg, .Call (.Name f p) args [] q =>
    if isBlt c f "range" = true then (match args with
      | [a] => if isStar a = true then none else (cE n c a).map .rng1
      | [a, b] => if (isStar a || isStar b) = true then none else (cE n c a).bind fun a => (cE n c b).map fun b => .rng2 a b
      | [a, b, d] => if (isStar a || isStar b || isStar d) = true then none else (cE n c a).bind fun a => (cE n c b).bind fun b => (cE n c d).map fun d => .rng3 a b d
      | _ => none)
    else if isBlt c f "enumerate" = true then (match args with
      | [a] => if isStar a = true ∨ isTup tg = false then none else (cE n c a).map .enm
      | _ => none)
    else if isBlt c f "zip" = true then (match args with
      | [a, b] => if isStar a = true ∨ isStar b = true ∨ isTup tg = false then none else (cE n c a).bind fun a => (cE n c b).map fun b => .zip a b
      | _ => none)
    else (cE n c (.Call (.Name f p) args [] q)).map .of
  | n + 1, c, _, e => if isSet e = true then none else (cE n c e).map .of
  | _, _, _, _ => none
end
/-- may the target be stored the usual way: value, target, statement's line -/
def isComp : Expr → Bool
  | .SetComp .. => true
  | .DictComp .. => true
  | .GeneratorExp .. => true
  | _ => false
/-- where what is stored under a name is made: by number, if it is told so -/
def cR (c : Cc) (x : Str) : Cc := if c.rn.contains x = true then { c with rf := true } else c
def locO (c : Cc) (x : Str) : Option Nat := if c.sc.names.lookup x = some .local then slotW c x else none
def isFun (c : Cc) : Bool := match c.sc.kind with
  | .function => true
  | _ => false
/-- is one of them no plain local name -/
def cellB (c : Cc) (xs : List Str) : Bool := xs.any fun x => !(c.sc.names.lookup x == some .local)
/-- are they stored from the right, as the pair's items -/
def parB (c : Cc) (l l2 : Nat) (vs : List Expr) : Bool := isFun c && l2 == l && !(vs.any isStar) && !(vs.all (foldedForSure 8)) && !(vs.all (constantsAlone 8))
mutual
def cT : Nat → Cc → Stmt → Option T
  | n + 1, c, .Assign [.Name x _] e _ => if isComp e = true then none else (slotW c x).bind fun i => (cE n (cR c x) e).map fun e => .asg (.nm i) e
  | n + 1, c, .Assign [.Tuple [.Name x px, .Name y py] _ _] (.Tuple [a, b] _ _) _ => if (parB c px.line py.line [a, b] && !(cellB c [x, y])) = true then (locO c x).bind fun i => (locO c y).bind fun j => (cE n (cR c x) a).bind fun a => (cE n (cR c y) b).bind fun b =>
      if i ≠ j then some (.par i j a b) else none
    else if (!([a, b].any isStar) && cellB c [x, y]) = true then (slotW c x).bind fun i => (slotW c y).bind fun j => (cE n (cR c x) a).bind fun a => (cE n (cR c y) b).bind fun b =>
      if i ≠ j then some (.par i j a b) else none
    else none
  | n + 1, c, .Assign [.Tuple [.Name x px, .Name y py, .Name z pz] _ _] (.Tuple [a, b, d] _ _) _ => if (parB c px.line py.line [a, b, d] && pz.line == px.line) = true then (locO c x).bind fun i => (locO c y).bind fun j => (locO c z).bind fun k =>
      (cE n (cR c x) a).bind fun a => (cE n (cR c y) b).bind fun b => (cE n (cR c z) d).bind fun d =>
      if i ≠ j ∧ i ≠ k ∧ j ≠ k then some (.par3 i j k a b d) else none
    else none
  | n + 1, c, .Assign [.Tuple ts k p] e _ => if (isComp e || isTup e) = true then none else (cTg c n (.Tuple ts k p)).bind fun tg => (cE n c e).map fun e => .asg tg e
  | n + 1, c, .Assign [.Subscript o i _] e _ => if (isComp e || isSlice i) = true then none else (cE n c o).bind fun o => (cE n c i).bind fun i => (cE n c e).map fun e => .setix o i e
  | n + 1, c, .AugAssign (.Name x _) o e _ => (slotW c x).bind fun i => (bopO o).bind fun o => (cE n c e).map fun e => .aug i o e
  | n + 1, c, .Expr (.Call (.Attribute (.Name x _) m ap) [e] [] cp) _ =>
    if (ap.endLine == cp.line) = true ∧ isStar e = false then (if m = "append" then (slotR c x).bind fun i => (cE n c e).map fun e => .app i e
      else if m = "extend" then (slotR c x).bind fun i => (cE n c e).map fun e => .ext i e else none)
    else none
  | n + 1, c, .Expr (.Call f as ks p) _ => (cE n c (.Call f as ks p)).map .ex
  | n + 1, c, .Return (some (.Name x p)) _ => match slotR c x with
    | some i => some (.rtv i)
    | none => (cE n c (.Name x p)).map .ret
  | n + 1, c, .Return (some e) _ => (cE n c e).map .ret
  | n + 1, _, .Return none _ => some .retn
  | n + 1, _, .Pass _ => some .pass
  | n + 1, _, .Break _ => some .brk
  | n + 1, _, .Continue _ => some .cnt
  | n + 1, c, .If t a b _ => (cB n c t).bind fun t => (cTs n c a).bind fun a => (cTs n c b).map fun b => .iff t a b
  | n + 1, c, .For tg it b [] _ => (cI n c tg it).bind fun it => (cTg c n tg).bind fun tg => (cTs n c b).map fun b => .fr tg it b
  | n + 1, c, .While t b [] _ => (cB n c t).bind fun t => (cTs n c b).map fun b => .wh t b
  | _, _, _ => none
def cTs : Nat → Cc → List Stmt → Option Ts
  | n + 1, _, [] => some .nil
  | n + 1, c, s :: ss => (cT n c s).bind fun t => (cTs n c ss).map fun ts => .cons t ts
  | _, _, _ => none
end
/-- the scope's side of a def: N all its names, parameters first -/
def scopeB (N ps : List Str) (sc : Scope) : Bool :=
  (match sc.kind with | .function => true | _ => false) && !sc.isCoroutine && !sc.isGenerator && decide N.Nodup && decide (N.take ps.length = ps) &&
    (ps.all fun x => match sc.names.lookup x with | some .local => true | some .cell => true | _ => false) && (sc.names.all fun y => match y.2 with | .free => false | _ => true)
/-- plain parameters -/
def plainArgs (a : Arguments) (ps : List Str) : Bool :=
  a.posonlyargs.isEmpty && decide (a.args.map (·.arg) = ps) && a.vararg.isNone && a.kwonlyargs.isEmpty && a.kwarg.isNone && a.defaults.isEmpty
def cDef (gt : List (Str × Gv)) (rf : Bool) (gl : Nat) (rn : List Str) (N : List Str) (ar : Nat) (st : Stmt) : Option Fd :=
  let sc := L2.defScope st
  if (scopeB N (N.take ar) sc && plainArgs (L2.defArgs st) (N.take ar) && decide (ar ≤ N.length)) = true then
    (cTs 60 ⟨N, sc, fun _ => true, gt, rf, gl, rn⟩ (L2.defBody st)).map fun b => ⟨ar, N.length, b⟩
  else none
end Ev


set_option Elab.async false
set_option linter.all false
set_option maxRecDepth 100000
set_option maxHeartbeats 1000000
/-! EvB: plain data in the abstract heap. -/
namespace Ev
open PySem
open L2 (V Hp HO SqL SqT Rd upd upd_same upd_ne Same)
section
variable (K : PySem.W.Frag) (ρ : List Addr) (F : Addr → Prop) (H : Hp)
/-- a list that is shared: nobody changes it any more -/
def ShL (a : Addr) (xs : List V) : Prop := (F a ∧ Rd H a (.lst xs)) ∨ SqL K (fun _ => none) a xs
theorem sq_none {K : PySem.W.Frag} {H : Hp} {a : Addr} {xs : List V} (h : SqL K (fun _ => none) a xs) : SqL K H a xs := by
  rcases h with h | h
  · rcases h with h | ⟨o, h⟩ <;> cases h
  · exact .inr h
theorem ShL.sq {a : Addr} {xs : List V} (h : ShL K F H a xs) : SqL K H a xs := h.elim (fun h => .inl h.2) sq_none
theorem shL_of {a : Addr} {xs : List V} (f : F a) (h : SqL K H a xs) : ShL K F H a xs := h.elim (fun h => .inl ⟨f, h⟩) fun h => .inr (.inr h)
mutual
/-- v stands for the data -/
def Rep : D → V → Prop
  | .non, v => v = .non
  | .bl b, v => v = .bl b
  | .int i, v => v = .int i
  | .str x, v => v = .str x
  | .tup l, v => ∃ a vs, v = .ref a ∧ SqT K H a vs ∧ Reps l vs
  | .lst l, v => ∃ a vs, v = .ref a ∧ ShL K F H a vs ∧ Reps l vs
  | .dic ks xs, v => ∃ a kvs, v = .ref a ∧ F a ∧ H a = some (.dK kvs) ∧ kvs.map (·.1) = ks ∧ Reps xs (kvs.map (·.2))
  | .ref n, v => ∃ a, ρ[n]? = some a ∧ v = .ref a
  | .tpx l, v => ∃ a vs o, v = .ref a ∧ H a = some (.frz o (.tup vs)) ∧ o.dict = none ∧ Reps l vs
def Reps : List D → List V → Prop
  | [], vs => vs = []
  | d :: ds, vs => ∃ v r, vs = v :: r ∧ Rep d v ∧ Reps ds r
end
end
/-- may be changed in place -/
def Chg : HO → Prop
  | .lst _ => True
  | .dK _ => True
  | .tbl _ => True
  | _ => False
/-- a def's table -/
def IsTb : HO → Prop
  | .tbl _ => True
  | _ => False
/-- from a statement to a later one -/
structure ExS (ρ : List Addr) (F : Addr → Prop) (H : Hp) (ρ' : List Addr) (F' : Addr → Prop) (H' : Hp) : Prop where
  pre : ∀ (n : Nat) a, ρ[n]? = some a → ρ'[n]? = some a
  fz : ∀ a, F a → F' a
  keep : ∀ a o, H a = some o → F a ∨ ¬ Chg o → H' a = some o
/-- .. within an expression: but for the lists by number nothing changes -/
structure ExE (ρ : List Addr) (F : Addr → Prop) (H : Hp) (ρ' : List Addr) (F' : Addr → Prop) (H' : Hp) : Prop where
  pre : ∀ (n : Nat) a, ρ[n]? = some a → ρ'[n]? = some a
  fz : ∀ a, F a → F' a
  all : ∀ a o, H a = some o → a ∉ ρ → ¬ IsTb o → H' a = some o
  tbl : ∀ a o, H a = some o → IsTb o → ∃ o', H' a = some o' ∧ IsTb o'
  rn : ∀ a, a ∈ ρ' → a ∈ ρ ∨ H a = none
section
variable {K : PySem.W.Frag} {ρ ρ' ρ2 : List Addr} {F F' F2 : Addr → Prop} {H H' H2 : Hp}
theorem ExS.refl : ExS ρ F H ρ F H := ⟨fun _ _ h => h, fun _ h => h, fun _ _ h _ => h⟩
theorem ExS.trans (a : ExS ρ F H ρ' F' H') (b : ExS ρ' F' H' ρ2 F2 H2) : ExS ρ F H ρ2 F2 H2 :=
  ⟨fun n c h => b.pre n c (a.pre n c h), fun c h => b.fz c (a.fz c h), fun c o h k => b.keep c o (a.keep c o h k) (k.imp (a.fz c) id)⟩
theorem ExE.refl : ExE ρ F H ρ F H := ⟨fun _ _ h => h, fun _ h => h, fun _ _ h _ _ => h, fun _ o h t => ⟨o, h, t⟩, fun _ h => .inl h⟩
theorem Rd.mono (x : ExS ρ F H ρ' F' H') {a : Addr} {u : HO} (r : Rd H a u) (h : F a ∨ ¬ Chg u) : Rd H' a u := by
  rcases r with r | ⟨o, r⟩
  · exact .inl (x.keep a u r h)
  · exact .inr ⟨o, x.keep a _ r (.inr (by intro z; exact z))⟩
theorem SqT.mono (x : ExS ρ F H ρ' F' H') {a : Addr} {vs : List V} (h : SqT K H a vs) : SqT K H' a vs := by
  rcases h with h | h
  · exact .inl (Rd.mono x h (.inr (by intro z; exact z)))
  · exact .inr h
theorem ShL.mono (x : ExS ρ F H ρ' F' H') {a : Addr} {vs : List V} (h : ShL K F H a vs) : ShL K F' H' a vs := h.elim (fun h => .inl ⟨x.fz a h.1, Rd.mono x h.2 (.inl h.1)⟩) .inr
mutual
theorem Rep.mono (x : ExS ρ F H ρ' F' H') : ∀ (d : D) (v : V), Rep K ρ F H d v → Rep K ρ' F' H' d v
  | .non, _, h => by simpa only [Rep] using h
  | .bl _, _, h => by simpa only [Rep] using h
  | .int _, _, h => by simpa only [Rep] using h
  | .str _, _, h => by simpa only [Rep] using h
  | .tup l, _, h => by
    simp only [Rep] at h ⊢
    obtain ⟨a, vs, e, s, r⟩ := h
    exact ⟨a, vs, e, SqT.mono x s, Reps.mono x l vs r⟩
  | .lst l, _, h => by
    simp only [Rep] at h ⊢
    obtain ⟨a, vs, e, s, r⟩ := h
    exact ⟨a, vs, e, ShL.mono x s, Reps.mono x l vs r⟩
  | .dic ks l, _, h => by
    simp only [Rep] at h ⊢
    obtain ⟨a, kvs, e, f, s, k, r⟩ := h
    exact ⟨a, kvs, e, x.fz a f, x.keep a _ s (.inl f), k, Reps.mono x l _ r⟩
  | .ref n, _, h => by
    simp only [Rep] at h ⊢
    obtain ⟨a, e, q⟩ := h
    exact ⟨a, x.pre n a e, q⟩
  | .tpx l, _, h => by
    simp only [Rep] at h ⊢
    obtain ⟨a, vs, o, e, s, d, r⟩ := h
    exact ⟨a, vs, o, e, x.keep a _ s (.inr (by intro z; exact z)), d, Reps.mono x l _ r⟩
theorem Reps.mono (x : ExS ρ F H ρ' F' H') : ∀ (ds : List D) (vs : List V), Reps K ρ F H ds vs → Reps K ρ' F' H' ds vs
  | [], _, h => by simpa only [Reps] using h
  | d :: ds, _, h => by
    simp only [Reps] at h ⊢
    obtain ⟨v, r, e, h1, h2⟩ := h
    exact ⟨v, r, e, Rep.mono x d v h1, Reps.mono x ds r h2⟩
end
theorem Reps.length : ∀ {ds : List D} {vs : List V}, Reps K ρ F H ds vs → vs.length = ds.length
  | [], vs, h => by simp only [Reps] at h; subst h; rfl
  | d :: ds, vs, h => by
    simp only [Reps] at h
    obtain ⟨v, r, e, _, h2⟩ := h
    subst e
    simp only [List.length_cons, Reps.length h2]
theorem Reps.get : ∀ {ds : List D} {vs : List V} {i : Nat} {d : D}, Reps K ρ F H ds vs → ds[i]? = some d → ∃ v, vs[i]? = some v ∧ Rep K ρ F H d v
  | [], _, _, _, _, e => by simp at e
  | d :: ds, vs, i, d', h, e => by
    simp only [Reps] at h
    obtain ⟨v, r, q, h1, h2⟩ := h
    subst q
    cases i with
    | zero => simp at e; subst e; exact ⟨v, by simp, h1⟩
    | succ i => simpa using Reps.get h2 (by simpa using e)
theorem Reps.append : ∀ {ds es : List D} {vs us : List V}, Reps K ρ F H ds vs → Reps K ρ F H es us → Reps K ρ F H (ds ++ es) (vs ++ us)
  | [], _, _, _, h, g => by simp only [Reps] at h; subst h; exact g
  | d :: ds, es, vs, us, h, g => by
    simp only [Reps] at h
    obtain ⟨v, r, q, h1, h2⟩ := h
    subst q
    simp only [List.cons_append, Reps]
    exact ⟨v, _, rfl, h1, Reps.append h2 g⟩
theorem Reps.drop : ∀ {ds : List D} {vs : List V} (n : Nat), Reps K ρ F H ds vs → Reps K ρ F H (ds.drop n) (vs.drop n)
  | _, _, 0, h => by simpa using h
  | [], vs, n + 1, h => by simp only [Reps] at h; subst h; simp [Reps]
  | d :: ds, vs, n + 1, h => by
    simp only [Reps] at h
    obtain ⟨v, r, q, h1, h2⟩ := h
    subst q
    simpa using Reps.drop n h2
theorem Reps.take : ∀ {ds : List D} {vs : List V} (n : Nat), Reps K ρ F H ds vs → Reps K ρ F H (ds.take n) (vs.take n)
  | _, _, 0, h => by simp [Reps]
  | [], vs, n + 1, h => by simp only [Reps] at h; subst h; simp [Reps]
  | d :: ds, vs, n + 1, h => by
    simp only [Reps] at h
    obtain ⟨v, r, q, h1, h2⟩ := h
    subst q
    simp only [List.take_succ_cons, Reps]
    exact ⟨v, _, rfl, h1, Reps.take n h2⟩
theorem Reps.set : ∀ {ds : List D} {vs : List V} {d : D} {v : V} (n : Nat), Reps K ρ F H ds vs → Rep K ρ F H d v → Reps K ρ F H (ds.set n d) (vs.set n v)
  | [], vs, _, _, n, h, _ => by simp only [Reps] at h; subst h; simp [Reps]
  | d :: ds, vs, d', v', n, h, g => by
    simp only [Reps] at h
    obtain ⟨v, r, q, h1, h2⟩ := h
    subst q
    cases n with
    | zero => simp only [List.set_cons_zero, Reps]; exact ⟨v', r, rfl, g, h2⟩
    | succ n => simp only [List.set_cons_succ, Reps]; exact ⟨v, _, rfl, h1, Reps.set n h2 g⟩
theorem Reps.one {d : D} {v : V} (h : Rep K ρ F H d v) : Reps K ρ F H [d] [v] := by
  simp only [Reps]
  exact ⟨v, [], rfl, h, rfl⟩
theorem Reps.nil : Reps K ρ F H [] [] := by simp only [Reps]
theorem Reps.cons {d : D} {v : V} {ds : List D} {vs : List V} (h : Rep K ρ F H d v) (g : Reps K ρ F H ds vs) : Reps K ρ F H (d :: ds) (v :: vs) := by
  simp only [Reps]
  exact ⟨v, vs, rfl, h, g⟩
end

/-- an object that is changed in place, as it stands -/
def ObRep (K : PySem.W.Frag) (ρ : List Addr) (F : Addr → Prop) (H : Hp) : MO → HO → Prop
  | .l l, h => ∃ vs, h = .lst vs ∧ Reps K ρ F H l vs
  | .d ks ds, h => ∃ kvs : List (L2.Key × V), h = .dK kvs ∧ kvs.map (·.1) = ks ∧ Reps K ρ F H ds (kvs.map (·.2))
section
variable {K : PySem.W.Frag} {ρ ρ' : List Addr} {F F' : Addr → Prop} {H H' : Hp}
theorem ObRep.mono (x : ExS ρ F H ρ' F' H') : ∀ {o : MO} {h : HO}, ObRep K ρ F H o h → ObRep K ρ' F' H' o h
  | .l _, _, ⟨vs, e, r⟩ => ⟨vs, e, Reps.mono x _ _ r⟩
  | .d _ _, _, ⟨kvs, e, q, r⟩ => ⟨kvs, e, q, Reps.mono x _ _ r⟩
theorem ObRep.chg : ∀ {o : MO} {h : HO}, ObRep K ρ F H o h → Chg h ∧ ¬ IsTb h
  | .l _, _, ⟨vs, e, _⟩ => by subst e; exact ⟨trivial, id⟩
  | .d _ _, _, ⟨kvs, e, _⟩ => by subst e; exact ⟨trivial, id⟩
end
/-- what stays the same through a def's (or a block's) run: at its entry the lists by number, the shared ones, the heap; what is not to be touched -/
structure Bx where
  ρ : List Addr
  F : Addr → Prop
  H : Hp
  Pr : Addr → Prop
/-- a list that only one place has -/
structure Own (K : PySem.W.Frag) (b : Bx) (ρ : List Addr) (F : Addr → Prop) (H : Hp) (a : Addr) (l : List D) (vs : List V) : Prop where
  at_ : H a = some (.lst vs)
  reps : Reps K ρ F H l vs
  nf : ¬ F a
  nr : a ∉ ρ
  new : b.H a = none
  np : ¬ b.Pr a
/-- the names' slots and the lists by number stand in the abstract heap -/
structure Rl (K : PySem.W.Frag) (Tb : Addr → Prop) (b : Bx) (σV : L2.St) (ρ : List Addr) (F : Addr → Prop) (H : Hp) (s : S) : Prop where
  len : s.σ.length = σV.length
  val : ∀ (i : Nat) d, s.σ[i]? = some (.val d) → ∃ v, σV[i]? = some (some v) ∧ Rep K ρ F H d v
  own : ∀ (i : Nat) l, s.σ[i]? = some (.mls l) → ∃ a vs, σV[i]? = some (some (.ref a)) ∧ Own K b ρ F H a l vs
  apart : ∀ (i j : Nat) l l' a, s.σ[i]? = some (.mls l) → s.σ[j]? = some (.mls l') → σV[i]? = some (some (.ref a)) → σV[j]? = some (some (.ref a)) → i = j
  mem : ∀ (n : Nat) o, s.M[n]? = some o → ∃ a h, ρ[n]? = some a ∧ H a = some h ∧ ObRep K ρ F H o h
  ml : ρ.length = s.M.length
  nd : ρ.Nodup
  rf : ∀ a, a ∈ ρ → ¬ F a ∧ ¬ b.Pr a
  rn : ∀ a, a ∈ ρ → a ∈ b.ρ ∨ b.H a = none
  ft : ∀ a, F a → ∃ o, H a = some o ∧ ¬ IsTb o
  fn : ∀ a, F a → b.F a ∨ b.H a = none
  old : ∀ a o, b.H a = some o → a ∉ b.ρ → ¬ IsTb o → H a = some o
  oldT : ∀ a o, b.H a = some o → IsTb o → ∃ o', H a = some o' ∧ IsTb o'
  pt : ∀ a, b.Pr a → ¬ F a ∧ ∃ o, H a = some o ∧ ¬ IsTb o
  bp : ∀ a, a ∈ b.ρ → a ∈ ρ
  tab : ∀ P, Tb P → GxR.TabG H P
/-- a value that an expression has made -/
def RepR (K : PySem.W.Frag) (b : Bx) (σV : L2.St) (ρ : List Addr) (F : Addr → Prop) (H : Hp) (s : S) : Rv → V → Prop
  | .un, _ => False
  | .val d, v => Rep K ρ F H d v
  | .mls l, v => ∃ a vs, v = .ref a ∧ Own K b ρ F H a l vs ∧ ∀ (i : Nat) l', s.σ[i]? = some (.mls l') → σV[i]? ≠ some (some (.ref a))
section
variable {K : PySem.W.Frag} {Tb : Addr → Prop} {b : Bx} {σV : L2.St} {ρ ρ' : List Addr} {F F' : Addr → Prop} {H H' : Hp} {s : S}
theorem Rl.mem_at (r : Rl K Tb b σV ρ F H s) {a : Addr} (h : a ∈ ρ) : ∃ h, H a = some h ∧ Chg h ∧ ¬ IsTb h := by
  obtain ⟨n, hn, e⟩ := List.getElem_of_mem h
  have hl : n < s.M.length := by rw [← r.ml]; exact hn
  obtain ⟨c, vs, e1, e2, e3⟩ := r.mem n s.M[n] (by simp [hl])
  have : c = a := by
    have : ρ[n]? = some a := by rw [← e]; simp [hn]
    rw [this] at e1
    exact (Option.some.inj e1).symm
  exact ⟨vs, this ▸ e2, e3.chg⟩
/-- within an expression: a case of the former -/
theorem ExE.toS (x : ExE ρ F H ρ' F' H') (r : Rl K Tb b σV ρ F H s) : ExS ρ F H ρ' F' H' where
  pre := x.pre
  fz := x.fz
  keep := fun a o h k => x.all a o h (fun m => by
    rcases k with k | k
    · exact (r.rf a m).1 k
    · obtain ⟨vs, e, c, _⟩ := r.mem_at m
      rw [h] at e
      cases e
      exact k c) fun t => by
    rcases k with k | k
    · obtain ⟨u, e, n⟩ := r.ft a k
      rw [h] at e
      cases e
      exact n t
    · cases o <;> first | exact t | exact k trivial
theorem ExE.trans {ρ2 : List Addr} {F2 : Addr → Prop} {H2 : Hp} (a : ExE ρ F H ρ' F' H') (e : ExE ρ' F' H' ρ2 F2 H2) : ExE ρ F H ρ2 F2 H2 where
  pre := fun n c h => e.pre n c (a.pre n c h)
  fz := fun c h => e.fz c (a.fz c h)
  all := fun c o h k t => e.all c o (a.all c o h k t) (fun m => by
    rcases a.rn c m with z | z
    · exact k z
    · rw [h] at z; cases z) t
  tbl := fun c o h t => by
    obtain ⟨o1, h1, t1⟩ := a.tbl c o h t
    exact e.tbl c o1 h1 t1
  rn := fun c m => by
    rcases e.rn c m with z | z
    · exact a.rn c z
    · by_cases k : c ∈ ρ
      · exact .inl k
      · cases q : H c with
        | none => exact .inr rfl
        | some o =>
          by_cases t : IsTb o
          · obtain ⟨o1, h1, _⟩ := a.tbl c o q t
            rw [h1] at z; cases z
          · rw [a.all c o q k t] at z; cases z
/-- all that was there is as it was -/
theorem ExE.same (h : Same H H') : ExE ρ F H ρ F H' := ⟨fun _ _ h => h, fun _ h => h, fun a o q _ _ => h a o q, fun a o q t => ⟨o, h a o q, t⟩, fun _ h => .inl h⟩
theorem ExE.more (h : ∀ a, F a → F' a) : ExE ρ F H ρ F' H := ⟨fun _ _ h => h, h, fun _ _ q _ _ => q, fun a o q t => ⟨o, q, t⟩, fun _ h => .inl h⟩
theorem ExS.same (h : Same H H') : ExS ρ F H ρ F H' := ⟨fun _ _ h => h, fun _ h => h, fun a o q _ => h a o q⟩
theorem ExS.more (h : ∀ a, F a → F' a) : ExS ρ F H ρ F' H := ⟨fun _ _ h => h, h, fun _ _ q _ => q⟩
theorem Own.mono {a : Addr} {l : List D} {vs : List V} (x : ExS ρ F H ρ' F' H') (o : Own K b ρ F H a l vs) (h : H' a = some (.lst vs)) (nf : ¬ F' a) (nr : a ∉ ρ') : Own K b ρ' F' H' a l vs :=
  ⟨h, Reps.mono x _ _ o.reps, nf, nr, o.new, o.np⟩
/-- the heap grows -/
theorem Rl.same (r : Rl K Tb b σV ρ F H s) (h : Same H H') : Rl K Tb b σV ρ F H' s where
  len := r.len
  val := fun i d e => let ⟨v, q, p⟩ := r.val i d e; ⟨v, q, Rep.mono (ExS.same h) _ _ p⟩
  own := fun i l e => let ⟨a, vs, q, o⟩ := r.own i l e; ⟨a, vs, q, o.mono (ExS.same h) (h _ _ o.at_) o.nf o.nr⟩
  apart := r.apart
  mem := fun n l e => let ⟨a, vs, q, p, t⟩ := r.mem n l e; ⟨a, vs, q, h _ _ p, t.mono (ExS.same h)⟩
  ml := r.ml
  nd := r.nd
  rf := r.rf
  rn := r.rn
  ft := fun a f => let ⟨o, q, t⟩ := r.ft a f; ⟨o, h _ _ q, t⟩
  fn := r.fn
  old := fun a o q n t => h _ _ (r.old a o q n t)
  oldT := fun a o q t => let ⟨o1, q1, t1⟩ := r.oldT a o q t; ⟨o1, h _ _ q1, t1⟩
  pt := fun a p => ⟨(r.pt a p).1, let ⟨o, q, t⟩ := (r.pt a p).2; ⟨o, h _ _ q, t⟩⟩
  bp := r.bp
  tab := fun P q => let ⟨ps, e, t⟩ := r.tab P q; ⟨ps, h _ _ e, t⟩
theorem same_upd {p : Addr} {o : HO} (hp : H p = none) : Same H (upd H p o) := fun c u q => by
  rw [upd_ne (L2.ne_of_none q hp)]; exact q
/-- an object of one's own is shared from now on -/
theorem Rl.share (r : Rl K Tb b σV ρ F H s) {a : Addr} (ho : ∃ o, H a = some o ∧ ¬ IsTb o) (nr : a ∉ ρ) (new : b.H a = none) (np : ¬ b.Pr a) (ns : ∀ (i : Nat) l', s.σ[i]? = some (.mls l') → σV[i]? ≠ some (some (.ref a))) :
    Rl K Tb b σV ρ (fun c => F c ∨ c = a) H s where
  len := r.len
  val := fun i d e => let ⟨v, q, p⟩ := r.val i d e; ⟨v, q, Rep.mono (ExS.more fun _ => .inl) _ _ p⟩
  own := fun i l e => by
    obtain ⟨c, vs, q, o⟩ := r.own i l e
    refine ⟨c, vs, q, o.mono (ExS.more fun _ => .inl) o.at_ (fun z => ?_) o.nr⟩
    rcases z with z | z
    · exact o.nf z
    · subst z; exact ns i l e q
  apart := r.apart
  mem := fun n l e => let ⟨a, vs, q, p, t⟩ := r.mem n l e; ⟨a, vs, q, p, t.mono (ExS.more fun _ => .inl)⟩
  ml := r.ml
  nd := r.nd
  rf := fun c m => ⟨fun z => z.elim (r.rf c m).1 fun z => nr (z ▸ m), (r.rf c m).2⟩
  rn := r.rn
  ft := fun c f => f.elim (r.ft c) fun z => z ▸ ho
  fn := fun c f => f.elim (r.fn c) fun z => .inr (z ▸ new)
  old := r.old
  oldT := r.oldT
  pt := fun c p => ⟨fun z => z.elim (r.pt c p).1 fun z => np (z ▸ p), (r.pt c p).2⟩
  bp := r.bp
  tab := r.tab
/-- a value as data -/
theorem RepR.fz (r : Rl K Tb b σV ρ F H s) {rv : Rv} {v : V} (h : RepR K b σV ρ F H s rv v) : ∃ F', (∀ a, F a → F' a) ∧ Rl K Tb b σV ρ F' H s ∧ Rep K ρ F' H rv.fz v := by
  cases rv with
  | un => exact h.elim
  | val d => exact ⟨F, fun _ z => z, r, h⟩
  | mls l =>
    obtain ⟨a, vs, rfl, o, ns⟩ := h
    refine ⟨fun c => F c ∨ c = a, fun _ => .inl, r.share ⟨_, o.at_, id⟩ o.nr o.new o.np ns, ?_⟩
    show Rep K ρ _ H (.lst l) (.ref a)
    simp only [Rep]
    exact ⟨a, vs, rfl, .inl ⟨.inr rfl, .inl o.at_⟩, Reps.mono (ExS.more fun _ => .inl) _ _ o.reps⟩
/-- a new object is no one's -/
theorem Rl.free (r : Rl K Tb b σV ρ F H s) {p : Addr} (hp : H p = none) : ¬ F p ∧ p ∉ ρ ∧ b.H p = none ∧ ¬ b.Pr p ∧ ∀ (i : Nat) l', s.σ[i]? = some (.mls l') → σV[i]? ≠ some (some (.ref p)) := by
  refine ⟨fun f => ?_, fun m => ?_, ?_, fun q => ?_, fun i l' e q => ?_⟩
  · obtain ⟨o, z, _⟩ := r.ft p f; rw [hp] at z; cases z
  · obtain ⟨vs, z, _⟩ := r.mem_at m; rw [hp] at z; cases z
  · by_cases m : p ∈ b.ρ
    · obtain ⟨vs, z, _⟩ := r.mem_at (r.bp p m); rw [hp] at z; cases z
    · cases q : b.H p with
      | none => rfl
      | some o =>
        by_cases t : IsTb o
        · obtain ⟨o1, z, _⟩ := r.oldT p o q t; rw [hp] at z; cases z
        · have := r.old p o q m t; rw [hp] at this; cases this
  · obtain ⟨_, o, z, _⟩ := r.pt p q; rw [hp] at z; cases z
  · obtain ⟨a, vs, e1, o⟩ := r.own i l' e
    rw [e1] at q
    cases q
    have := o.at_
    rw [hp] at this
    cases this
end
end Ev


set_option Elab.async false
set_option linter.all false
set_option maxRecDepth 100000
set_option maxHeartbeats 1000000
/-! EvC: what the evaluator yields of expressions, the model yields. -/
namespace Ev
open PySem
open L2 (V Hp HO SqL SqT Rd upd upd_same upd_ne Same TE VK PE PT PW PA XK Sp FnOk Binds Room CX0 E0 Cx OpR)

/-- the run at large -/
structure Gd where
  P : Program
  w : World
  K : PySem.W.Frag
  Tb : Addr → Prop
  mg : Str → Option Value
  base : Heap
  k : Nat
  C : Calls
  D : Nat → D
/-- where a piece of code runs -/
structure XOk (g : Gd) (c : Cc) (X : Cx) : Prop where
  P : X.prog = g.P
  w : X.w = g.w
  K : X.K = g.K
  mg : X.mg = g.mg
  base : X.base = g.base
  N : X.N = c.N
  nd : c.N.Nodup
  sc : X.env.scope = c.sc
  fn : ∀ x, c.fn x = true → X.fn x = true
  calm : X.calm = true
  room : Room (g.k + min 1 c.gl) X.A
  code : 1 < c.gl → ∃ (cd P : Addr), X.env.code = .ref cd ∧ GxR.TabB X.base X.mg cd P ∧ g.Tb P
/-- what is wanted of a result, R telling how it is stood for -/
def WG {α β : Type} (K : PySem.W.Frag) (Tb : Addr → Prop) (b : Bx) (σV : L2.St) (ρ : List Addr) (F : Addr → Prop) (H : Hp) (R : List Addr → (Addr → Prop) → Hp → S → α → β → Prop) (Q : β → Hp → Prop) : Res (α × S) → Prop
  | .ok (a, s') => ∀ v ρ' F' H', ExE ρ F H ρ' F' H' → Rl K Tb b σV ρ' F' H' s' → R ρ' F' H' s' a v → Q v H'
  | _ => False
section
variable {α β γ : Type} {K : PySem.W.Frag} {Tb : Addr → Prop} {b : Bx} {σV : L2.St} {ρ ρ' : List Addr} {F F' : Addr → Prop} {H H' : Hp} {R : List Addr → (Addr → Prop) → Hp → S → α → β → Prop} {Q : β → Hp → Prop} {r : Res (α × S)} {s : S}
theorem WG.later (h : WG K Tb b σV ρ F H R Q r) (x : ExE ρ F H ρ' F' H') : WG K Tb b σV ρ' F' H' R Q r := by
  cases r with
  | ok p => exact fun v ρ2 F2 H2 e q t => h v ρ2 F2 H2 (x.trans e) q t
  | exc _ => exact h
  | bad => exact h
/-- a part of an expression, its value shared -/
theorem WG.step {r : Res (Rv × S)} {f : Rv → S → Res (α × S)} {T : VK → Prop} {Kt : VK} (h : WG K Tb b σV ρ F H R Q (r.b2 f)) (ha : ∀ Q', WG K Tb b σV ρ F H (RepR K b σV) Q' r → T Q')
    (hk : ∀ rv s1 v ρ1 F1 H1, r = .ok (rv, s1) → ExE ρ F H ρ1 F1 H1 → Rl K Tb b σV ρ1 F1 H1 s1 → Rep K ρ1 F1 H1 rv.fz v → WG K Tb b σV ρ1 F1 H1 R Q (f rv s1) → Kt v H1) : T Kt := by
  refine ha _ ?_
  cases r with
  | ok p =>
    obtain ⟨rv, s1⟩ := p
    intro v ρ1 F1 H1 e q t
    obtain ⟨F2, m, q2, p⟩ := RepR.fz q t
    exact hk rv s1 v ρ1 F2 H1 rfl (e.trans (ExE.more m)) q2 p (WG.later h (e.trans (ExE.more m)))
  | exc _ => exact h.elim
  | bad => exact h.elim
/-- a part, as it is -/
theorem WG.part {α' β' : Type} {R' : List Addr → (Addr → Prop) → Hp → S → α' → β' → Prop} {r : Res (α' × S)} {f : α' → S → Res (α × S)} {T : (β' → Hp → Prop) → Prop} {Kt : β' → Hp → Prop} (h : WG K Tb b σV ρ F H R Q (r.b2 f)) (ha : ∀ Q', WG K Tb b σV ρ F H R' Q' r → T Q')
    (hk : ∀ a s1 v ρ1 F1 H1, r = .ok (a, s1) → ExE ρ F H ρ1 F1 H1 → Rl K Tb b σV ρ1 F1 H1 s1 → R' ρ1 F1 H1 s1 a v → WG K Tb b σV ρ1 F1 H1 R Q (f a s1) → Kt v H1) : T Kt := by
  refine ha _ ?_
  cases r with
  | ok p =>
    obtain ⟨rv, s1⟩ := p
    intro v ρ1 F1 H1 e q t
    exact hk rv s1 v ρ1 F1 H1 rfl e q t (WG.later h e)
  | exc _ => exact h.elim
  | bad => exact h.elim
/-- the end of an expression -/
theorem WG.fin {a : α} {v : β} (h : WG K Tb b σV ρ F H R Q (.ok (a, s))) (q : Rl K Tb b σV ρ F H s) (t : R ρ F H s a v) : Q v H := h v ρ F H ExE.refl q t
theorem WG.fin' {a : α} {v : β} (h : WG K Tb b σV ρ F H R Q (.ok (a, s))) (x : Same H H') (q : Rl K Tb b σV ρ F H s) (t : R ρ F H' s a v) : Q v H' := h v ρ F H' (ExE.same x) (q.same x) t
theorem WG.opt {o : Option γ} {f : γ → Res (α × S)} (h : WG K Tb b σV ρ F H R Q ((opt o).bind f)) : ∃ c, o = some c ∧ WG K Tb b σV ρ F H R Q (f c) := by
  cases o with
  | none => exact h.elim
  | some c => exact ⟨c, rfl, h⟩
theorem WG.ite {p : Prop} [Decidable p] {x : Res (α × S)} (h : WG K Tb b σV ρ F H R Q (if p then x else .bad)) : p ∧ WG K Tb b σV ρ F H R Q x := by
  by_cases k : p
  · rw [if_pos k] at h; exact ⟨k, h⟩
  · rw [if_neg k] at h; exact h.elim
end
/-- a new list, nobody else's -/
theorem RepR.new {K : PySem.W.Frag} {Tb : Addr → Prop} {b : Bx} {σV : L2.St} {ρ : List Addr} {F : Addr → Prop} {H : Hp} {s : S} {p : Addr} {l : List D} {vs : List V} (r : Rl K Tb b σV ρ F H s) (hp : H p = none) (h : Reps K ρ F H l vs) :
    RepR K b σV ρ F (upd H p (.lst vs)) s (.mls l) (.ref p) := by
  obtain ⟨h1, h2, h3, h4, h5⟩ := r.free hp
  exact ⟨p, vs, rfl, ⟨upd_same, Reps.mono (ExS.same (same_upd hp)) _ _ h, h1, h2, h3, h4⟩, h5⟩
theorem Rep.newT {K : PySem.W.Frag} {ρ : List Addr} {F : Addr → Prop} {H : Hp} {p : Addr} {l : List D} {vs : List V} (hp : H p = none) (h : Reps K ρ F H l vs) : Rep K ρ F (upd H p (.tup vs)) (.tup l) (.ref p) := by
  simp only [Rep]
  exact ⟨p, vs, rfl, SqT.of upd_same, Reps.mono (ExS.same (same_upd hp)) _ _ h⟩

/-! ### the judgements: code and what it is in the small language -/
def SE (g : Gd) (c : Cc) (e : Expr) (ir : E) : Prop := ∃ t : TE, (∀ X, XOk g c X → PE X e t) ∧
  ∀ b σV ρ F H s Q, Rl g.K g.Tb b σV ρ F H s → WG g.K g.Tb b σV ρ F H (RepR g.K b σV) Q (evE g.C g.D ir s) → t σV H Q
def SEs (g : Gd) (c : Cc) (es : List Expr) (ir : Es) : Prop := ∃ t : L2.TA, (∀ X, XOk g c X → PA X es t) ∧
  ∀ b σV ρ F H s Q, Rl g.K g.Tb b σV ρ F H s → WG g.K g.Tb b σV ρ F H (fun ρ F H _ l vs => Reps g.K ρ F H l vs) Q (evEs g.C g.D ir s) → t σV H Q
def SB (g : Gd) (c : Cc) (e : Expr) (ir : B) : Prop := ∃ t : L2.TT, (∀ X, XOk g c X → PT X e t) ∧
  ∀ b σV ρ F H s Q, Rl g.K g.Tb b σV ρ F H s → WG g.K g.Tb b σV ρ F H (fun _ _ _ _ k k' => k' = k) Q (evB g.C g.D ir s) → t σV H Q

/-- what a def promises: what the evaluator's calls yield -/
def MemOk (K : PySem.W.Frag) (Tb : Addr → Prop) (ρ : List Addr) (F : Addr → Prop) (H : Hp) (M : Mem) : Prop :=
  (∀ (n : Nat) o, M[n]? = some o → ∃ a h, ρ[n]? = some a ∧ H a = some h ∧ ObRep K ρ F H o h) ∧ ρ.length = M.length ∧ ρ.Nodup ∧ (∀ a, a ∈ ρ → ¬ F a) ∧ (∀ a, F a → ∃ o, H a = some o ∧ ¬ IsTb o) ∧ ∀ P, Tb P → GxR.TabG H P
/-- a value handed back -/
def RepC (K : PySem.W.Frag) (H0 : Hp) (ρ : List Addr) (F : Addr → Prop) (H : Hp) : Rv → V → Prop
  | .un, _ => False
  | .val d, v => Rep K ρ F H d v
  | .mls l, v => ∃ a vs, v = .ref a ∧ H a = some (.lst vs) ∧ Reps K ρ F H l vs ∧ ¬ F a ∧ a ∉ ρ ∧ H0 a = none
def WC (K : PySem.W.Frag) (Tb : Addr → Prop) (ρ : List Addr) (F : Addr → Prop) (H : Hp) (Q : VK) : Res (Rv × Mem) → Prop
  | .ok (rv, M') => ∀ v ρ' F' H', ExE ρ F H ρ' F' H' → (∀ a, F' a → F a ∨ H a = none) → MemOk K Tb ρ' F' H' M' → RepC K H ρ' F' H' rv v → Q v H'
  | _ => False
def spOf (K : PySem.W.Frag) (Tb : Addr → Prop) (C : Calls) (i ar : Nat) : Sp := fun vs H Q _ => vs.length = ar ∧ ∃ ds ρ F M, Reps K ρ F H ds vs ∧ MemOk K Tb ρ F H M ∧ WC K Tb ρ F H Q (C i ds M)
/-- the global names are what the table tells -/
structure GOk (g : Gd) (gt : List (Str × Gv)) : Prop where
  fn : ∀ x i ar, gt.lookup x = some (.fn i ar) → ∃ f fd ps, g.mg x = some (.ref f) ∧ PySem.W.keepIn g.K (.ref f) = true ∧ FnOk g.P g.w g.K g.mg g.base CX0 g.k f fd ps (spOf g.K g.Tb g.C i ar) ∧ Binds g.K fd ps [] ∧ ps.length = ar
  cst : ∀ x n, gt.lookup x = some (.cst n) → ∃ v u, g.mg x = some u ∧ L2.RelV v u ∧ ∀ ρ F H, Rep g.K ρ F H (g.D n) v
  blt : ∀ x, gt.lookup x = some .blt → g.mg x = none

section
variable {g : Gd} {c : Cc} {pos : Pos}
theorem se_none {j : Nat} : SE g c (.Constant .none j pos) .none := ⟨_, fun _ _ => L2.pe_non, fun b σV ρ F H s Q rl h => by
  simp only [evE] at h
  exact h.fin rl (by simp only [RepR, Rep])⟩
theorem se_bl {k : Bool} {j : Nat} : SE g c (.Constant (.bool k) j pos) (.bl k) := ⟨_, fun _ _ => L2.pe_bl, fun b σV ρ F H s Q rl h => by
  simp only [evE] at h
  exact h.fin rl (by simp only [RepR, Rep])⟩
theorem se_int {i : Int} {j : Nat} : SE g c (.Constant (.int i) j pos) (.int i) := ⟨_, fun _ _ => L2.pe_int, fun b σV ρ F H s Q rl h => by
  simp only [evE] at h
  exact h.fin rl (by simp only [RepR, Rep])⟩
theorem se_str {x : Str} {j : Nat} : SE g c (.Constant (.str x) j pos) (.str x) := ⟨_, fun _ _ => L2.pe_str, fun b σV ρ F H s Q rl h => by
  simp only [evE] at h
  exact h.fin rl (by simp only [RepR, Rep])⟩

/-! ### names -/
theorem idx_at {x : Str} : ∀ {N : List Str} {i : Nat}, idx x N = some i → N[i]? = some x
  | [], _, h => by simp [idx] at h
  | y :: ys, i, h => by
    unfold idx at h
    by_cases e : y = x
    · rw [if_pos e] at h; cases h; simp [e]
    · rw [if_neg e] at h
      cases q : idx x ys with
      | none => rw [q] at h; simp at h
      | some j =>
        rw [q] at h
        simp only [Option.map_some, Option.some.injEq] at h
        subst h
        simpa using idx_at q
theorem okName_of {x : Str} (h : okName x = true) : (x == ("__debug__" : Str)) = false ∧ (x == ("__classdict__" : Str)) = false ∧ x ≠ ("__name__" : Str) := by
  unfold okName at h
  simp only [Bool.and_eq_true, Bool.not_eq_true'] at h
  exact ⟨h.1.1, h.1.2, by simpa using h.2⟩
theorem vis_of {sc : Scope} {x : Str} (h : visB sc x = true) : L2.Vis sc x := by
  unfold visB at h
  unfold L2.Vis
  split at h <;> first | exact .inl (by assumption) | exact .inr (.inl (by assumption)) | exact .inr (.inr (by assumption)) | cases h
theorem slotR_of {x : Str} {i : Nat} (h : slotR c x = some i) : c.N[i]? = some x ∧ L2.Vis c.sc x ∧ okName x = true := by
  unfold slotR at h
  by_cases k : (visB c.sc x && okName x) = true
  · rw [if_pos k] at h
    obtain ⟨k1, k2⟩ := Bool.and_eq_true_iff.mp k
    exact ⟨idx_at h, vis_of k1, k2⟩
  · rw [if_neg k] at h; cases h
theorem locB_of {x : Str} (h : locB c x = true) : L2.Loc c.sc x ∧ (c.fn x = true ∨ c.sc.names.lookup x = some .local) := by
  unfold locB at h
  unfold L2.Loc
  split at h
  · exact ⟨.inl (by assumption), .inr (by assumption)⟩
  · exact ⟨.inr (by assumption), .inl h⟩
  · cases h
theorem slotW_of {x : Str} {i : Nat} (h : slotW c x = some i) : c.N[i]? = some x ∧ L2.Loc c.sc x ∧ okName x = true ∧ (c.fn x = true ∨ c.sc.names.lookup x = some .local) := by
  unfold slotW at h
  by_cases k : (locB c x && okName x) = true
  · rw [if_pos k] at h
    obtain ⟨k1, k2⟩ := Bool.and_eq_true_iff.mp k
    obtain ⟨k3, k4⟩ := locB_of k1
    exact ⟨idx_at h, k3, k2, k4⟩
  · rw [if_neg k] at h; cases h
theorem globV_of {x : Str} {v : Gv} (h : globV c x = some v) : c.sc.names.lookup x = some .globalImplicit ∧ c.gt.lookup x = some v ∧ okName x = true := by
  unfold globV at h
  by_cases k : okName x = true
  · rw [if_pos k] at h
    split at h
    · exact ⟨by assumption, h, k⟩
    · cases h
  · rw [if_neg k] at h; cases h
theorem isBlt_of {x y : Str} (h : isBlt c x y = true) : x = y ∧ globV c x = some .blt := by
  unfold isBlt at h
  obtain ⟨h1, h2⟩ := Bool.and_eq_true_iff.mp h
  refine ⟨of_decide_eq_true h1, ?_⟩
  split at h2
  · assumption
  · cases h2
theorem XOk.gl {X : Cx} (h : XOk g c X) {x : Str} {v : Gv} (q : globV c x = some v) : L2.Gl X x := by
  have := (globV_of q).1
  show X.env.scope.names.lookup x = _
  rw [h.sc]
  exact this

theorem set_same {α : Type} : ∀ {l : List α} {i : Nat} {x : α}, l[i]? = some x → l.set i x = l
  | [], _, _, h => by simp at h
  | y :: ys, 0, x, h => by simp at h; subst h; rfl
  | y :: ys, i + 1, x, h => by simp only [List.set_cons_succ]; rw [set_same (by simpa using h)]
theorem get_set {α : Type} {l : List α} {i j : Nat} {x y : α} (h : (l.set i x)[j]? = some y) : (i = j ∧ y = x) ∨ (i ≠ j ∧ l[j]? = some y) := by
  by_cases e : i = j
  · subst e
    by_cases hl : i < l.length
    · rw [List.getElem?_set_self hl] at h; exact .inl ⟨rfl, (Option.some.inj h).symm⟩
    · rw [List.getElem?_eq_none (by simpa using hl)] at h; cases h
  · rw [List.getElem?_set_ne e] at h; exact .inr ⟨e, h⟩
end
section
variable {K : PySem.W.Frag} {Tb : Addr → Prop} {b : Bx} {σV : L2.St} {ρ ρ' : List Addr} {F F' : Addr → Prop} {H H' : Hp} {s : S}
/-- a name is stored -/
theorem Rl.put (r : Rl K Tb b σV ρ F H s) {i : Nat} {rv : Rv} {v : V} (h : RepR K b σV ρ F H s rv v) (hi : i < s.σ.length) : Rl K Tb b (σV.set i (some v)) ρ F H { s with σ := s.σ.set i rv } where
  len := by simp [r.len]
  val := fun j d e => by
    rcases get_set e with ⟨rfl, q⟩ | ⟨ne, q⟩
    · subst q
      exact ⟨v, by rw [List.getElem?_set_self (by rw [← r.len]; exact hi)], h⟩
    · obtain ⟨u, q1, q2⟩ := r.val j d q
      exact ⟨u, by rw [List.getElem?_set_ne ne]; exact q1, q2⟩
  own := fun j l e => by
    rcases get_set e with ⟨rfl, q⟩ | ⟨ne, q⟩
    · subst q
      obtain ⟨a, vs, rfl, o, _⟩ := h
      exact ⟨a, vs, by rw [List.getElem?_set_self (by rw [← r.len]; exact hi)], o⟩
    · obtain ⟨u, vs, q1, q2⟩ := r.own j l q
      exact ⟨u, vs, by rw [List.getElem?_set_ne ne]; exact q1, q2⟩
  apart := fun j k l l' a e1 e2 e3 e4 => by
    rcases get_set e1 with ⟨rfl, q⟩ | ⟨ne, q⟩
    · subst q
      rcases get_set e2 with ⟨rfl, q⟩ | ⟨ne, q⟩
      · rfl
      · obtain ⟨a', vs, rfl, o, ns⟩ := h
        rw [List.getElem?_set_self (by rw [← r.len]; exact hi)] at e3
        cases e3
        rw [List.getElem?_set_ne ne] at e4
        exact absurd e4 (ns k l' q)
    · rw [List.getElem?_set_ne ne] at e3
      rcases get_set e2 with ⟨rfl, q2⟩ | ⟨ne2, q2⟩
      · subst q2
        obtain ⟨a', vs, rfl, o, ns⟩ := h
        rw [List.getElem?_set_self (by rw [← r.len]; exact hi)] at e4
        cases e4
        exact absurd e3 (ns j l q)
      · rw [List.getElem?_set_ne ne2] at e4
        exact r.apart j k l l' a q q2 e3 e4
  mem := r.mem
  ml := r.ml
  nd := r.nd
  rf := r.rf
  rn := r.rn
  ft := r.ft
  fn := r.fn
  old := r.old
  oldT := r.oldT
  pt := r.pt
  bp := r.bp
  tab := r.tab
/-- slots forgotten, or known anew -/
theorem Rl.slots (r : Rl K Tb b σV ρ F H s) {σ' : List Rv} (hl : σ'.length = s.σ.length) (h : ∀ (i : Nat) x, σ'[i]? = some x → x = .un ∨ s.σ[i]? = some x ∨ ∃ d v, x = .val d ∧ σV[i]? = some (some v) ∧ Rep K ρ F H d v) :
    Rl K Tb b σV ρ F H { s with σ := σ' } where
  len := by rw [← r.len]; exact hl
  val := fun i d e => by
    rcases h i _ e with z | z | ⟨d', v, z, q, p⟩
    · cases z
    · exact r.val i d z
    · cases z; exact ⟨v, q, p⟩
  own := fun i l e => by
    rcases h i _ e with z | z | ⟨d', v, z, q, p⟩
    · cases z
    · exact r.own i l z
    · cases z
  apart := fun i j l l' a e1 e2 e3 e4 => by
    rcases h i _ e1 with z | z | ⟨d', v, z, q, p⟩
    · cases z
    · rcases h j _ e2 with z2 | z2 | ⟨d', v, z2, q, p⟩
      · cases z2
      · exact r.apart i j l l' a z z2 e3 e4
      · cases z2
    · cases z
  mem := r.mem
  ml := r.ml
  nd := r.nd
  rf := r.rf
  rn := r.rn
  ft := r.ft
  fn := r.fn
  old := r.old
  oldT := r.oldT
  pt := r.pt
  bp := r.bp
  tab := r.tab
/-- a name's own list is read: shared from now on -/
theorem Rl.read (r : Rl K Tb b σV ρ F H s) {i : Nat} {l : List D} (e : s.σ[i]? = some (.mls l)) : ∃ a F', σV[i]? = some (some (.ref a)) ∧ (∀ c, F c → F' c) ∧ Rl K Tb b σV ρ F' H { s with σ := s.σ.set i (.val (.lst l)) } ∧ Rep K ρ F' H (.lst l) (.ref a) := by
  obtain ⟨a, vs, q, o⟩ := r.own i l e
  have r1 : Rl K Tb b σV ρ F H { s with σ := s.σ.set i .un } := r.slots (by simp) fun j x h => by
    rcases get_set h with ⟨rfl, z⟩ | ⟨ne, z⟩
    · exact .inl z
    · exact .inr (.inl z)
  have r2 := r1.share ⟨_, o.at_, id⟩ o.nr o.new o.np fun j l' h z => by
    rcases get_set h with ⟨rfl, w⟩ | ⟨ne, w⟩
    · cases w
    · exact ne (r.apart i j l l' a e w q z)
  have p : Rep K ρ (fun c => F c ∨ c = a) H (.lst l) (.ref a) := by
    simp only [Rep]
    exact ⟨a, vs, rfl, .inl ⟨.inr rfl, .inl o.at_⟩, Reps.mono (ExS.more fun _ => .inl) _ _ o.reps⟩
  refine ⟨a, _, q, fun _ => .inl, ?_, p⟩
  have := r2.slots (σ' := s.σ.set i (.val (.lst l))) (by simp) fun j x h => by
    rcases get_set h with ⟨rfl, z⟩ | ⟨ne, z⟩
    · exact .inr (.inr ⟨_, _, z, q, p⟩)
    · exact .inr (.inl (by show (s.σ.set i .un)[j]? = some x; rw [List.getElem?_set_ne ne]; exact z))
  exact this
end
section
variable {g : Gd} {c : Cc} {pos : Pos} {e e2 e3 : Expr} {i i2 i3 : E}
theorem se_v {x : Str} {i : Nat} (h : slotR c x = some i) : SE g c (.Name x pos) (.v i) := by
  obtain ⟨h1, h2, h3⟩ := slotR_of h
  obtain ⟨h4, h5, _⟩ := okName_of h3
  refine ⟨_, fun X hX => L2.pe_var (i := i) (by rw [hX.N]; exact h1) (by rw [hX.sc]; exact h2) h4 h5, fun b σV ρ F H s Q rl h => ?_⟩
  simp only [evE, rdV] at h
  split at h
  · rename_i d q
    obtain ⟨v, p, t⟩ := rl.val i d q
    exact ⟨v, p, h.fin rl t⟩
  · rename_i l q
    obtain ⟨a, F', p, m, r2, t⟩ := rl.read q
    exact ⟨_, p, (h.later (ExE.more m)).fin r2 t⟩
  · exact h.elim
theorem se_cst {gt : List (Str × Gv)} (gk : GOk g gt) (hc : c.gt = gt) {x : Str} {n : Nat} (h : globV c x = some (.cst n)) : SE g c (.Name x pos) (.cst n) := by
  obtain ⟨h1, h2, h3⟩ := globV_of h
  obtain ⟨h4, h5, _⟩ := okName_of h3
  obtain ⟨v, u, h6, h7, h8⟩ := gk.cst x n (hc ▸ h2)
  refine ⟨_, fun X hX => L2.pe_glob (hX.gl h) (by rw [hX.mg]; exact h6) h7 h4, fun b σV ρ F H s Q rl h => ?_⟩
  simp only [evE] at h
  exact h.fin rl (h8 _ _ _)

/-! ### argument lists, displays -/
theorem star_no (h : isStar e = false) (es : List Expr) (env : Env) : starEach (e :: es) env = (false, eval e env) :: starEach es env := by
  cases e <;> first | rfl | cases h
theorem ses_nil : SEs g c [] .nil := ⟨_, fun _ _ => L2.pa_nil, fun b σV ρ F H s Q rl h => by
  simp only [evEs] at h
  exact h.fin rl Reps.nil⟩
theorem ses_cons {es : List Expr} {is : Es} (h : isStar e = false) (he : SE g c e i) (hs : SEs g c es is) : SEs g c (e :: es) (.cons i is) := by
  obtain ⟨t, h1, h2⟩ := he
  obtain ⟨t', h3, h4⟩ := hs
  refine ⟨_, fun X hX => L2.pa_cons (h1 X hX) (h3 X hX) (star_no h es _), fun b σV ρ F H s Q rl h => ?_⟩
  simp only [evEs] at h
  refine h.step (T := fun Q' => t σV H Q') (fun Q' q => h2 _ _ _ _ _ _ _ rl q) fun x s1 v ρ1 F1 H1 _ e1 r1 p1 q1 => ?_
  refine q1.part (T := fun Q' => t' σV H1 Q') (fun Q' q => h4 _ _ _ _ _ _ _ r1 q) fun xs s2 vs ρ2 F2 H2 _ e2 r2 p2 q2 => ?_
  exact q2.fin r2 (Reps.cons (Rep.mono (e2.toS r1) _ _ p1) p2)
theorem se_tup {es : List Expr} {k : Nat} {is : Es} (hs : SEs g c es is) : SE g c (.Tuple es k pos) (.tup is) := by
  obtain ⟨t, h1, h2⟩ := hs
  refine ⟨_, fun X hX => L2.pe_tup (h1 X hX), fun b σV ρ F H s Q rl h => ?_⟩
  simp only [evE] at h
  refine h.part (T := fun Q' => t σV H Q') (fun Q' q => h2 _ _ _ _ _ _ _ rl q) fun l s1 vs ρ1 F1 H1 _ e1 r1 p1 q1 => ?_
  obtain ⟨q1, q2⟩ := q1.ite
  exact ⟨by rw [p1.length]; exact q1, fun p hp => q2.fin' (same_upd hp) r1 (Rep.newT hp p1)⟩
theorem se_lst {es : List Expr} {is : Es} (hs : SEs g c es is) : SE g c (.List es pos) (.lst is) := by
  obtain ⟨t, h1, h2⟩ := hs
  refine ⟨_, fun X hX => L2.pe_lst (h1 X hX), fun b σV ρ F H s Q rl h => ?_⟩
  simp only [evE] at h
  refine h.part (T := fun Q' => t σV H Q') (fun Q' q => h2 _ _ _ _ _ _ _ rl q) fun l s1 vs ρ1 F1 H1 _ e1 r1 p1 q1 => ?_
  obtain ⟨q1, q2⟩ := q1.ite
  exact ⟨by rw [p1.length]; exact q1, fun p hp => q2.fin' (same_upd hp) r1 (RepR.new r1 hp p1)⟩
end
section
variable {K : PySem.W.Frag} {Tb : Addr → Prop} {b : Bx} {σV : L2.St} {ρ ρ' : List Addr} {F F' : Addr → Prop} {H H' : Hp} {s : S}
theorem get_push {α : Type} {l : List α} {x y : α} {n : Nat} (h : (l ++ [x])[n]? = some y) : l[n]? = some y ∨ (n = l.length ∧ y = x) := by
  by_cases k : n < l.length
  · rw [List.getElem?_append_left k] at h; exact .inl h
  · rw [List.getElem?_append_right (by omega)] at h
    by_cases e : n = l.length
    · subst e; simp at h; exact .inr ⟨rfl, h.symm⟩
    · rw [List.getElem?_eq_none (by simp; omega)] at h; cases h
theorem exE_ref {p : Addr} {o : HO} (hp : H p = none) : ExE ρ F H (ρ ++ [p]) F (upd H p o) :=
  ⟨fun n a h => by rw [List.getElem?_append_left (List.getElem?_eq_some_iff.mp h).1]; exact h, fun _ h => h, fun a o h _ _ => same_upd hp a o h, fun a o h t => ⟨o, same_upd hp a o h, t⟩, fun a m => by
    rcases List.mem_append.mp m with z | z
    · exact .inl z
    · rw [List.mem_singleton.mp z]; exact .inr hp⟩
/-- a new list by number -/
theorem Rl.newRef (r : Rl K Tb b σV ρ F H s) {p : Addr} {l : MO} {u : HO} (hp : H p = none) (h : ObRep K ρ F H l u) : Rl K Tb b σV (ρ ++ [p]) F (upd H p u) { s with M := s.M ++ [l] } := by
  obtain ⟨h1, h2, h3, h4, h5⟩ := r.free hp
  have x : ExS ρ F H (ρ ++ [p]) F (upd H p u) := (exE_ref hp).toS r
  have sm : Same H (upd H p u) := same_upd hp
  refine ⟨r.len, fun i d e => ?_, fun i l e => ?_, r.apart, fun n l' e => ?_, by simp [r.ml], ?_, fun a m => ?_, fun a m => ?_, fun a f => ?_, r.fn, fun a o e n t => sm _ _ (r.old a o e n t), fun a o q t => (let ⟨o1, q1, t1⟩ := r.oldT a o q t; ⟨o1, sm _ _ q1, t1⟩), fun a q => ?_, fun a m => List.mem_append_left _ (r.bp a m), fun P q => (let ⟨ps, e, t⟩ := r.tab P q; ⟨ps, sm _ _ e, t⟩)⟩
  · obtain ⟨v, q, t⟩ := r.val i d e
    exact ⟨v, q, Rep.mono x _ _ t⟩
  · obtain ⟨a, us, q, o⟩ := r.own i l e
    refine ⟨a, us, q, o.mono x (sm _ _ o.at_) o.nf fun m => ?_⟩
    rcases List.mem_append.mp m with z | z
    · exact o.nr z
    · rw [List.mem_singleton.mp z] at q; exact h5 i l e q
  · rcases get_push e with z | ⟨z1, z2⟩
    · obtain ⟨a, us, q, t, w⟩ := r.mem n l' z
      exact ⟨a, us, x.pre n a q, sm _ _ t, w.mono x⟩
    · subst z2
      exact ⟨p, u, by rw [z1, ← r.ml]; simp, upd_same, h.mono x⟩
  · rw [List.nodup_append]
    exact ⟨r.nd, by simp, fun a m q n => by rw [List.mem_singleton.mp n]; rintro rfl; exact h2 m⟩
  · rcases List.mem_append.mp m with z | z
    · exact r.rf a z
    · rw [List.mem_singleton.mp z]; exact ⟨h1, h4⟩
  · rcases List.mem_append.mp m with z | z
    · exact r.rn a z
    · rw [List.mem_singleton.mp z]; exact .inr h3
  · obtain ⟨o, q, t⟩ := r.ft a f
    exact ⟨o, sm _ _ q, t⟩
  · obtain ⟨z1, o, q, t⟩ := r.pt a q
    exact ⟨z1, o, sm _ _ q, t⟩
end
section
variable {g : Gd} {c : Cc} {pos : Pos} {e e2 e3 : Expr} {i i2 i3 : E}
theorem se_rls {es : List Expr} {is : Es} (hs : SEs g c es is) : SE g c (.List es pos) (.rls is) := by
  obtain ⟨t, h1, h2⟩ := hs
  refine ⟨_, fun X hX => L2.pe_lst (h1 X hX), fun b σV ρ F H s Q rl h => ?_⟩
  simp only [evE] at h
  refine h.part (T := fun Q' => t σV H Q') (fun Q' q => h2 _ _ _ _ _ _ _ rl q) fun l s1 vs ρ1 F1 H1 _ e1 r1 p1 q1 => ?_
  obtain ⟨q1, q2⟩ := q1.ite
  refine ⟨by rw [p1.length]; exact q1, fun p hp => q2 _ _ _ _ (exE_ref hp) (r1.newRef (l := .l l) (u := .lst vs) hp ⟨vs, rfl, p1⟩) ?_⟩
  simp only [RepR, Rep]
  exact ⟨p, by rw [← r1.ml]; simp, rfl⟩
/-- {} -/
theorem se_rdc : SE g c (.Dict [] [] pos) .rdc := ⟨L2.tDNewK, fun X hX => L2.pe_dnewK, fun b σV ρ F H s Q rl h => by
  simp only [evE] at h
  intro p hp
  refine h _ _ _ _ (exE_ref hp) (rl.newRef (l := .d [] []) (u := .dK []) hp ⟨[], rfl, rfl, Reps.nil⟩) ?_
  simp only [RepR, Rep]
  exact ⟨p, by rw [← rl.ml]; simp, rfl⟩⟩
end
end Ev


set_option Elab.async false
set_option linter.all false
set_option maxRecDepth 100000
set_option maxHeartbeats 1000000
/-! EvD: operators, calls of built-ins. -/
namespace Ev
open PySem
open L2 (V Hp HO SqL SqT Rd upd upd_same upd_ne Same TE VK PE PT PW PA XK Sp FnOk Binds Room CX0 E0 Cx OpR CallR R2)

theorem or_op {X : Cx} {f : Value → Value → Sem Value} {r r' : R2} (h : OpR X f r) (h' : OpR X f r') : OpR X f (fun x y H Q => r x y H Q ∨ r' x y H Q) := fun pins s σ H x y v u Q I rx ry q =>
  q.elim (h pins s σ H x y v u Q I rx ry) (h' pins s σ H x y v u Q I rx ry)
def rAddS : R2 := fun x y H Q => ∃ i j, x = .str i ∧ y = .str j ∧ i.length + j.length ≤ sizeLine ∧ Q (.str (i ++ j)) H
/-- list + list, whoever else has them -/
def rCatR (K : PySem.W.Frag) : R2 := fun x y H Q => ∃ l m xs zs, x = .ref l ∧ y = .ref m ∧ SqL K H l xs ∧ SqL K H m zs ∧ xs.length + zs.length ≤ sizeLine ∧ ∀ p, H p = none → Q (.ref p) (upd H p (.lst (xs ++ zs)))
theorem op_catR {X : Cx} : OpR X (binaryOp .Add) (rCatR X.K) := by
  intro pins s σ H x y v u Q I rx ry h
  obtain ⟨l, m, xs, zs, rfl, rfl, h1, h2, hz, q⟩ := h
  cases rx
  cases ry
  obtain ⟨as, r, ⟨⟨c1, d1, dt1, sl1⟩, n, e, hc1, hd1, ht1⟩, _⟩ := I.list h1
  obtain ⟨bs, r2, ⟨⟨c2, d2, dt2, sl2⟩, k, e2, hc2, hd2, ht2⟩, _⟩ := I.list h2
  simp only at hc1 hd1 ht1 hc2 hd2 ht2
  subst hc1 hd1 ht1 hc2 hd2 ht2
  have la := r.length
  have lb := r2.length
  have ea : as.toArray ++ bs.toArray = (as ++ bs).toArray := by simp
  refine concat_meets ⟨_, e, rfl⟩ ⟨_, e2, rfl⟩ noFill_list_add seq_list_add PySem.F.slot_list_add PySem.F.entry_list_add (PySem.F.args_list_add_2 _ _)
    (PyProof.Rows.list_addW l m as.toArray bs.toArray n k none none sl1 sl2 (by simp only [List.size_toArray]; omega)) ⟨e, e2, ?_⟩
  rw [ea]
  exact ⟨.ref _, _, L2.Inv.lnew (t' := s.toks) I (r.append r2) (by simp only [List.length_append]; omega), rfl, q _ (L2.Inv.fresh I)⟩
def rBin (K : PySem.W.Frag) : Bop → R2
  | .add => fun x y H Q => (L2.rI0 (fun i j => .int (i + j)) x y H Q ∨ rAddS x y H Q) ∨ (L2.rCatA K x y H Q ∨ rCatR K x y H Q)
  | .sub => L2.rI0 fun i j => .int (i - j)
  | .mul => L2.rI L2.CMul fun i j => .int (i * j)
  | .fdiv => L2.rI L2.CDiv fun i j => .int (i / j)
  | .mod => L2.rI (fun _ j => 0 < j) fun i j => .int (i % j)
theorem op_bin {X : Cx} {o : Operator} {p : Bop} (h : bopO o = some p) : OpR X (binaryOp o) (rBin X.K p) := by
  unfold bopO at h
  split at h
  · cases h; exact or_op (or_op L2.op_add L2.op_add_str) (or_op L2.op_catA op_catR)
  · cases h; exact L2.op_sub
  · cases h; exact L2.op_mul
  · cases h; exact L2.op_fdiv
  · cases h; exact L2.op_mod
  · cases h
/-- a value as it stands: of a list, a dict that may be changed, too -/
def RepI (K : PySem.W.Frag) (ρ : List Addr) (F : Addr → Prop) (H : Hp) : D → V → Prop
  | .lst l, v => ∃ a vs, v = .ref a ∧ SqL K H a vs ∧ Reps K ρ F H l vs
  | .dic ks xs, v => ∃ (a : Addr) (kvs : List (L2.Key × V)), v = .ref a ∧ H a = some (.dK kvs) ∧ kvs.map (·.1) = ks ∧ Reps K ρ F H xs (kvs.map (·.2))
  | d, v => Rep K ρ F H d v
section
variable {K : PySem.W.Frag} {Tb : Addr → Prop} {b : Bx} {σV : L2.St} {ρ : List Addr} {F : Addr → Prop} {H : Hp} {s : S} {Q : VK}
theorem Rep.toI {d : D} {v : V} (h : Rep K ρ F H d v) : RepI K ρ F H d v := by
  cases d <;> first | exact h | skip
  · simp only [Rep] at h
    obtain ⟨a, vs, e, q, r⟩ := h
    exact ⟨a, vs, e, q.sq K F H, r⟩
  · simp only [Rep] at h
    obtain ⟨a, kvs, e, _, q, k, r⟩ := h
    exact ⟨a, kvs, e, q, k, r⟩
theorem drI {d : D} {v : V} (rl : Rl K Tb b σV ρ F H s) (h : Rep K ρ F H d v) : RepI K ρ F H (drD s.M d) v := by
  cases d <;> first | exact h.toI | skip
  case tpx l =>
    simp only [Rep] at h
    obtain ⟨a, vs, o, e, s, _, r⟩ := h
    simp only [drD, RepI, Rep]
    exact ⟨a, vs, e, .inl (.inr ⟨o, s⟩), r⟩
  rename_i n
  simp only [drD]
  split
  · rename_i l e
    simp only [Rep] at h
    obtain ⟨a, q, rfl⟩ := h
    obtain ⟨a', u, q1, q2, vs, rfl, r⟩ := rl.mem n _ e
    rw [q] at q1
    cases q1
    exact ⟨a, vs, rfl, .inl (.of q2), r⟩
  · rename_i ks xs e
    simp only [Rep] at h
    obtain ⟨a, q, rfl⟩ := h
    obtain ⟨a', u, q1, q2, kvs, rfl, k, r⟩ := rl.mem n _ e
    rw [q] at q1
    cases q1
    exact ⟨a, kvs, rfl, q2, k, r⟩
  · exact h.toI
end
section
variable {K : PySem.W.Frag} {Tb : Addr → Prop} {b : Bx} {σV : L2.St} {ρ : List Addr} {F : Addr → Prop} {H : Hp} {s : S} {Q : VK}
theorem two64_of {i : Int} (h : two64 i = true) : -(2 ^ 64) < i ∧ i < 2 ^ 64 := by
  unfold two64 at h
  simpa using h
theorem bin_ok {o : Bop} {x y : D} {v u : V} {rv : Rv} (rl : Rl K Tb b σV ρ F H s) (p : RepI K ρ F H x v) (q : RepI K ρ F H y u) (e : binD o x y = some rv) (h : WG K Tb b σV ρ F H (RepR K b σV) Q (.ok (rv, s))) : rBin K o v u H Q := by
  unfold binD at e
  split at e
  · simp only [RepI, Rep] at p q
    subst p q
    cases e
    exact .inl (.inl ⟨_, _, rfl, rfl, h.fin rl (by simp only [RepR, Rep])⟩)
  · simp only [RepI, Rep] at p q
    subst p q
    split at e
    · cases e
      exact .inl (.inr ⟨_, _, rfl, rfl, by assumption, h.fin rl (by simp only [RepR, Rep])⟩)
    · cases e
  · simp only [RepI, Rep] at p q
    obtain ⟨a, vs, rfl, h1, h2⟩ := p
    obtain ⟨c, us, rfl, h3, h4⟩ := q
    split at e
    · rename_i hz
      cases e
      have e1 := h2.length
      have e2 := h4.length
      refine .inr (.inl ⟨a, c, vs, us, rfl, rfl, h1, h3, by rw [e1, e2]; exact hz, fun z => ?_, fun _ z => ?_, fun _ _ p hp => ?_⟩)
      · refine h.fin rl ?_
        simp only [RepR, Rep]
        refine ⟨c, us, rfl, h3, ?_⟩
        have := Reps.append h2 h4
        rw [z] at this
        exact this
      · refine h.fin rl ?_
        simp only [RepR, Rep]
        refine ⟨a, vs, rfl, h1, ?_⟩
        have := Reps.append h2 h4
        rw [z, List.append_nil] at this
        exact this
      · exact h.fin' (same_upd hp) rl (Rep.newT hp (Reps.append h2 h4))
    · cases e
  · simp only [RepI, Rep] at p q
    obtain ⟨a, vs, rfl, h1, h2⟩ := p
    obtain ⟨c, us, rfl, h3, h4⟩ := q
    split at e
    · rename_i hz
      cases e
      have e1 := h2.length
      have e2 := h4.length
      exact .inr (.inr ⟨a, c, vs, us, rfl, rfl, h1, h3, by rw [e1, e2]; exact hz, fun p hp => h.fin' (same_upd hp) rl (RepR.new rl hp (Reps.append h2 h4))⟩)
    · cases e
  all_goals try simp only [RepI, Rep] at p q
  all_goals try subst p q
  · cases e
    exact ⟨_, _, rfl, rfl, h.fin rl (by simp only [RepR, Rep])⟩
  · split at e
    · rename_i hz
      cases e
      refine ⟨_, _, rfl, rfl, ?_, h.fin rl (by simp only [RepR, Rep])⟩
      rcases Bool.or_eq_true_iff.mp hz with z | z
      · exact .inl (two64_of z)
      · exact .inr (two64_of z)
    · cases e
  · split at e
    · rename_i hz
      cases e
      exact ⟨_, _, rfl, rfl, hz, h.fin rl (by simp only [RepR, Rep])⟩
    · cases e
  · split at e
    · rename_i hz
      cases e
      exact ⟨_, _, rfl, rfl, hz, h.fin rl (by simp only [RepR, Rep])⟩
    · cases e
  · cases e
end
section
variable {g : Gd} {c : Cc} {pos : Pos} {e e2 e3 : Expr} {i i2 i3 : E}
theorem se_bin {o : Operator} {p : Bop} (h : bopO o = some p) (ha : SE g c e i) (hb : SE g c e2 i2) : SE g c (.BinOp e o e2 pos) (.bin p i i2) := by
  obtain ⟨t, h1, h2⟩ := ha
  obtain ⟨t', h3, h4⟩ := hb
  refine ⟨L2.tOp (rBin g.K p) t t', fun X hX => L2.pe_op (by rw [← hX.K]; exact op_bin h) (h1 X hX) (h3 X hX), fun b σV ρ F H s Q rl h => ?_⟩
  simp only [evE] at h
  refine h.step (T := fun Q' => t σV H Q') (fun Q' q => h2 _ _ _ _ _ _ _ rl q) fun x s1 v ρ1 F1 H1 _ e1 r1 p1 q1 => ?_
  refine q1.step (T := fun Q' => t' σV H1 Q') (fun Q' q => h4 _ _ _ _ _ _ _ r1 q) fun y s2 u ρ2 F2 H2 _ e2 r2 p2 q2 => ?_
  obtain ⟨rv, e3, q3⟩ := q2.opt
  exact bin_ok r2 (drI r2 (Rep.mono (e2.toS r1) _ _ p1)) (drI r2 p2) e3 q3
/-- a + b where lists are told by number -/
theorem se_rcat (ha : SE g c e i) (hb : SE g c e2 i2) : SE g c (.BinOp e .Add e2 pos) (.rcat i i2) := by
  obtain ⟨t, h1, h2⟩ := ha
  obtain ⟨t', h3, h4⟩ := hb
  refine ⟨L2.tOp (rBin g.K .add) t t', fun X hX => L2.pe_op (by rw [← hX.K]; exact op_bin rfl) (h1 X hX) (h3 X hX), fun b σV ρ F H s Q rl h => ?_⟩
  simp only [evE] at h
  refine h.step (T := fun Q' => t σV H Q') (fun Q' q => h2 _ _ _ _ _ _ _ rl q) fun x s1 v ρ1 F1 H1 _ e1 r1 p1 q1 => ?_
  refine q1.step (T := fun Q' => t' σV H1 Q') (fun Q' q => h4 _ _ _ _ _ _ _ r1 q) fun y s2 u ρ2 F2 H2 _ e2 r2 p2 q2 => ?_
  obtain ⟨rv, e3, q3⟩ := q2.opt
  have p1' := drI r2 (Rep.mono (e2.toS r1) _ _ p1)
  have p2' := drI r2 p2
  cases rv with
  | un =>
    exfalso
    unfold binD at e3
    split at e3 <;> first | (cases e3; done) | (split at e3 <;> cases e3)
  | val d => exact bin_ok r2 p1' p2' e3 q3
  | mls l =>
    have key : ∃ a b, drD s2.M x.fz = .lst a ∧ drD s2.M y.fz = .lst b ∧ l = a ++ b ∧ a.length + b.length ≤ seqLine := by
      unfold binD at e3
      split at e3 <;> first | (cases e3; done) | (split at e3 <;> first | (cases e3; done) | skip)
      rename_i a b _ za zb hz
      cases e3
      exact ⟨a, b, za, zb, rfl, hz⟩
    obtain ⟨a, b, za, zb, rfl, hz⟩ := key
    rw [za] at p1'
    rw [zb] at p2'
    obtain ⟨a1, vs, rfl, k1, k2⟩ := p1'
    obtain ⟨a2, us, rfl, k3, k4⟩ := p2'
    refine .inr (.inr ⟨a1, a2, vs, us, rfl, rfl, k1, k3, by rw [k2.length, k4.length]; exact hz, fun p hp => ?_⟩)
    refine q3 _ _ _ _ (exE_ref hp) (r2.newRef (l := .l (a ++ b)) (u := .lst (vs ++ us)) hp ⟨vs ++ us, rfl, Reps.append k2 k4⟩) ?_
    simp only [RepR, Rep]
    exact ⟨p, by rw [← r2.ml]; simp, rfl⟩
/-! ### comparisons -/
mutual
theorem Rep.dp {K : PySem.W.Frag} {ρ : List Addr} {F : Addr → Prop} {H : Hp} : ∀ (d : D) (v : V), pyOk d = true → Rep K ρ F H d v → L2.Dp K H v (toPy d)
  | .non, _, _, h => by simp only [Rep] at h; subst h; exact .non
  | .bl _, _, _, h => by simp only [Rep] at h; subst h; exact .bl _
  | .int _, _, _, h => by simp only [Rep] at h; subst h; exact .int _
  | .str _, _, _, h => by simp only [Rep] at h; subst h; exact .str _
  | .tup l, _, k, h => by
    simp only [Rep] at h
    obtain ⟨a, vs, rfl, h1, h2⟩ := h
    exact .tup h1 (Reps.dp l vs k h2)
  | .lst l, _, k, h => by
    simp only [Rep] at h
    obtain ⟨a, vs, rfl, h1, h2⟩ := h
    exact .lst (h1.sq K F H) (Reps.dp l vs k h2)
  | .tpx l, _, k, h => by
    simp only [Rep] at h
    obtain ⟨a, vs, o, rfl, h1, _, h2⟩ := h
    exact .tup (.inl (.inr ⟨o, h1⟩)) (Reps.dp l vs k h2)
  | .dic _ _, _, k, _ => by cases k
  | .ref _, _, k, _ => by cases k
theorem Reps.dp {K : PySem.W.Frag} {ρ : List Addr} {F : Addr → Prop} {H : Hp} : ∀ (ds : List D) (vs : List V), pyOks ds = true → Reps K ρ F H ds vs → L2.DpAll K H vs (toPys ds)
  | [], _, _, h => by simp only [Reps] at h; subst h; exact .nil
  | d :: ds, _, k, h => by
    simp only [Reps] at h
    obtain ⟨v, r, rfl, h1, h2⟩ := h
    simp only [pyOks, Bool.and_eq_true] at k
    exact .cons (Rep.dp d v k.1 h1) (Reps.dp ds r k.2 h2)
end
theorem RepI.dp {K : PySem.W.Frag} {ρ : List Addr} {F : Addr → Prop} {H : Hp} {d : D} {v : V} (k : pyOk d = true) (h : RepI K ρ F H d v) : L2.Dp K H v (toPy d) := by
  cases d with
  | lst l =>
    obtain ⟨a, vs, rfl, h1, h2⟩ := h
    exact .lst h1 (Reps.dp _ vs k h2)
  | dic ks xs => cases k
  | non => exact Rep.dp (ρ := ρ) (F := F) _ _ k h
  | bl x => exact Rep.dp (ρ := ρ) (F := F) _ _ k h
  | int x => exact Rep.dp (ρ := ρ) (F := F) _ _ k h
  | str x => exact Rep.dp (ρ := ρ) (F := F) _ _ k h
  | tup x => exact Rep.dp (ρ := ρ) (F := F) _ _ k h
  | ref x => exact Rep.dp (ρ := ρ) (F := F) _ _ k h
  | tpx x => exact Rep.dp (ρ := ρ) (F := F) _ _ k h
theorem flat_rep {K : PySem.W.Frag} {ρ : List Addr} {F : Addr → Prop} {H : Hp} {d : D} {v w : V} (h : Rep K ρ F H d v) (e : flatD d = some w) : v = w ∧ L2.flatV w = true := by
  cases d <;> first | (cases e; done) | (simp only [Rep] at h; cases e; exact ⟨h, rfl⟩)
theorem flat_repI {K : PySem.W.Frag} {ρ : List Addr} {F : Addr → Prop} {H : Hp} {d : D} {v w : V} (h : RepI K ρ F H d v) (e : flatD d = some w) : v = w ∧ L2.flatV w = true := by
  cases d <;> first | (cases e; done) | exact flat_rep h e
theorem flats_rep {K : PySem.W.Frag} {ρ : List Addr} {F : Addr → Prop} {H : Hp} : ∀ {ds : List D} {vs ws : List V}, Reps K ρ F H ds vs → flatDs ds = some ws → vs = ws ∧ ws.all L2.flatV = true
  | [], _, _, h, e => by simp only [Reps] at h; cases e; exact ⟨h, rfl⟩
  | d :: ds, _, ws, h, e => by
    simp only [Reps] at h
    obtain ⟨v, r, rfl, h1, h2⟩ := h
    simp only [flatDs] at e
    cases q : flatD d with
    | none => rw [q] at e; cases e
    | some w =>
      rw [q] at e
      cases q2 : flatDs ds with
      | none => rw [q2] at e; cases e
      | some us =>
        rw [q2] at e
        cases e
        obtain ⟨k1, k2⟩ := flat_rep h1 q
        obtain ⟨k3, k4⟩ := flats_rep h2 q2
        exact ⟨by rw [k1, k3], by rw [List.all_cons, k2, k4]; rfl⟩
/-- a key in a dict, not in it -/
def rDIn (n : Bool) : R2 := fun x y H Q => (∃ a o, y = .ref a ∧ L2.DGet H a x o ∧ Q (.bl (if n then !o.isSome else o.isSome)) H) ∨ ∃ (a : Addr) (kvs : List (L2.Key × V)), y = .ref a ∧ x = .non ∧ Rd H a (.dK kvs) ∧ Q (.bl n) H
theorem op_din {X : Cx} (hu : X.A.units + 1 < cLine) : OpR X (compareOp .In) (rDIn false) := by
  intro pins s σ H x y v u Q I rx ry h
  rcases h with ⟨a, o, rfl, g, q⟩ | ⟨a, kvs, rfl, rfl, g, q⟩
  · obtain rfl : u = Value.ref a := ry
    exact L2.d_in hu I g rx fun s3 I3 => ⟨.bl o.isSome, H, I3, rfl, q⟩
  · obtain rfl : u = Value.ref a := ry
    obtain rfl : v = Value.none := rx
    exact L2.d_inNone I g fun s3 I3 => ⟨.bl false, H, I3, rfl, q⟩
theorem op_dnotin {X : Cx} (hu : X.A.units + 1 < cLine) : OpR X (compareOp .NotIn) (rDIn true) := by
  intro pins s σ H x y v u Q I rx ry h
  rcases h with ⟨a, o, rfl, g, q⟩ | ⟨a, kvs, rfl, rfl, g, q⟩
  · obtain rfl : u = Value.ref a := ry
    exact L2.d_notIn hu I g rx fun s3 I3 => ⟨.bl (!o.isSome), H, I3, rfl, q⟩
  · obtain rfl : u = Value.ref a := ry
    obtain rfl : v = Value.none := rx
    exact L2.d_notInNone I g fun s3 I3 => ⟨.bl true, H, I3, rfl, q⟩
def rInS (n : Bool) : R2 := fun x y H Q => ∃ i j, x = .str i ∧ y = .str j ∧ Q (.bl (if n then !occS i j else occS i j)) H
theorem op_inS {X : Cx} : OpR X (compareOp .In) (rInS false) := L2.op_in_str
theorem op_notinS {X : Cx} : OpR X (compareOp .NotIn) (rInS true) := L2.op_notin_str
def rLtS : R2 := fun x y H Q => ∃ i j, x = .str i ∧ y = .str j ∧ Q (.bl (decide (i.cps.toList < j.cps.toList))) H
def rLt (p : Int → Int → Bool) : R2 := L2.rI0 fun i j => .bl (p i j)
def rCmp (K : PySem.W.Frag) : Cop → R2
  | .eq => fun x y H Q => L2.rEq x y H Q ∨ L2.rEqD K x y H Q
  | .ne => fun x y H Q => L2.rNe x y H Q ∨ L2.rNeD K x y H Q
  | .lt => fun x y H Q => rLt (fun i j => decide (i < j)) x y H Q ∨ rLtS x y H Q
  | .le => rLt fun i j => decide (i ≤ j)
  | .gt => rLt fun i j => decide (j < i)
  | .ge => rLt fun i j => decide (j ≤ i)
  | .isin => fun x y H Q => (L2.rIn K false x y H Q ∨ rInS false x y H Q) ∨ rDIn false x y H Q
  | .notin => fun x y H Q => (L2.rIn K true x y H Q ∨ rInS true x y H Q) ∨ rDIn true x y H Q
theorem op_cmp {X : Cx} {o : CmpOp} {p : Cop} (hu : X.A.units + 64 < cLine) (h : copO o = some p) : OpR X (compareOp o) (rCmp X.K p) := by
  unfold copO at h
  split at h
  · cases h; exact or_op L2.op_eq (L2.op_eqD hu)
  · cases h; exact or_op L2.op_ne (L2.op_neD hu)
  · cases h; exact or_op L2.op_lt L2.op_lt_str
  · cases h; exact L2.op_le
  · cases h; exact L2.op_gt
  · cases h; exact L2.op_ge
  · cases h; exact or_op (or_op L2.op_in_seq op_inS) (op_din (by omega))
  · cases h; exact or_op (or_op L2.op_notIn_seq op_notinS) (op_dnotin (by omega))
  · cases h
theorem lk_some {K : PySem.W.Frag} {ρ : List Addr} {F : Addr → Prop} {H : Hp} (k : Key) : ∀ {kvs : List (Key × V)} {ds : List D}, Reps K ρ F H ds (kvs.map (·.2)) → (L2.valV kvs k).isSome = (lkD (kvs.map (·.1)) ds k).isSome
  | [], ds, h => by cases ds <;> rfl
  | p :: r, ds, h => by
    cases ds with
    | nil => simp only [Reps] at h; cases h
    | cons d ds =>
      simp only [List.map_cons, Reps] at h
      obtain ⟨v, u, z, h1, h2⟩ := h
      cases z
      by_cases e : p.1 = k
      · rw [L2.valV_pos e]
        simp only [List.map_cons, lkD, if_pos e, Option.isSome_some]
      · rw [L2.valV_neg e]
        simp only [List.map_cons, lkD, if_neg e]
        exact lk_some k h2
section
variable {K : PySem.W.Frag} {Tb : Addr → Prop} {b : Bx} {σV : L2.St} {ρ : List Addr} {F : Addr → Prop} {H : Hp} {s : S} {Q : VK}
theorem eq_ok {x y : D} {v u : V} {k : Bool} (p : RepI K ρ F H x v) (q : RepI K ρ F H y u) (e : eqD x y = some k) : (L2.scal v u = true ∧ decide (v = u) = k) ∨ ∃ d f, L2.Dp K H v d ∧ L2.Dp K H u f ∧ SeqAt.shaped d = true ∧ SeqAt.shaped f = true ∧ PyData.eqv d f = k := by
  unfold eqD at e
  split at e
  case h_15 =>
    split at e
    · rename_i hz
      simp only [Bool.and_eq_true] at hz
      cases e
      exact .inr ⟨_, _, RepI.dp hz.1.1.1 p, RepI.dp hz.1.1.2 q, hz.1.2, hz.2, rfl⟩
    · cases e
  all_goals
    simp only [RepI, Rep] at p q
    subst p q
    cases e
    refine .inl ⟨rfl, ?_⟩
    first
      | rfl
      | (apply decide_eq_false; intro z; cases z; done)
      | (rw [L2.dec_bl]; done)
      | (simp; done)
theorem in_ok {x y : D} {v u : V} {k n : Bool} (p : RepI K ρ F H x v) (q : RepI K ρ F H y u) (e : inD x y = some k) (h : Q (.bl (if n then !k else k)) H) : (L2.rIn K n v u H Q ∨ rInS n v u H Q) ∨ rDIn n v u H Q := by
  have go : ∀ (l : List D) (vs : List V), Reps K ρ F H l vs → inSeq x l = some k → L2.flatV v = true ∧ vs.all L2.flatV = true ∧ L2.inV v vs = k := fun l vs r e => by
    unfold inSeq at e
    cases q1 : flatD x with
    | none => rw [q1] at e; cases e
    | some w =>
      rw [q1] at e
      cases q2 : flatDs l with
      | none => rw [q2] at e; cases e
      | some ws =>
        rw [q2] at e
        cases e
        obtain ⟨k1, k2⟩ := flat_repI p q1
        obtain ⟨k3, k4⟩ := flats_rep r q2
        exact ⟨by rw [k1]; exact k2, by rw [k3]; exact k4, by rw [k1, k3]⟩
  unfold inD at e
  split at e
  · split at e
    · cases e
      simp only [RepI, Rep] at p q
      exact .inl (.inr ⟨_, _, p, q, h⟩)
    · cases e
  · obtain ⟨a, kvs, rfl, h1, rfl, h2⟩ := q
    split at e
    · rename_i kk ek
      cases e
      have ev : v = L2.kV kk := by
        cases x <;> first | (cases ek; done) | skip
        all_goals
          simp only [keyD, Option.some.injEq] at ek
          subst ek
          simp only [RepI, Rep] at p
          exact p
      have hs : (L2.valV kvs kk).isSome = (lkD (kvs.map (·.1)) _ kk).isSome := lk_some kk h2
      refine .inr (.inl ⟨a, L2.valV kvs kk, rfl, .inl ⟨kvs, kk, .inl h1, ev, rfl⟩, ?_⟩)
      rw [hs]
      exact h
    · split at e
      · cases e
        simp only [RepI, Rep] at p
        refine .inr (.inr ⟨a, kvs, rfl, p, .inl h1, ?_⟩)
        cases n <;> exact h
      · cases e
  · simp only [RepI, Rep] at q
    obtain ⟨a, vs, rfl, h1, h2⟩ := q
    obtain ⟨k1, k2, k3⟩ := go _ _ h2 e
    refine .inl (.inl ⟨a, vs, rfl, .inr h1, k1, k2, ?_⟩)
    rw [k3]
    cases n <;> exact h
  · obtain ⟨a, vs, rfl, h1, h2⟩ := q
    obtain ⟨k1, k2, k3⟩ := go _ _ h2 e
    refine .inl (.inl ⟨a, vs, rfl, .inl h1, k1, k2, ?_⟩)
    rw [k3]
    cases n <;> exact h
  · cases e
theorem cmp_ok {o : Cop} {x y : D} {v u : V} {k : Bool} (p : RepI K ρ F H x v) (q : RepI K ρ F H y u) (e : cmpD o x y = some k) (h : Q (.bl k) H) : rCmp K o v u H Q := by
  unfold cmpD at e
  split at e
  · rcases eq_ok p q e with ⟨k1, k2⟩ | ⟨d, f, k1, k2, k3, k4, k5⟩
    · exact .inl ⟨k1, by rw [k2]; exact h⟩
    · exact .inr ⟨d, f, k1, k2, k3, k4, by rw [k5]; exact h⟩
  · cases q1 : eqD _ _ with
    | none => rw [q1] at e; cases e
    | some k' =>
      rw [q1] at e
      cases e
      rcases eq_ok p q q1 with ⟨k1, k2⟩ | ⟨d, f, k1, k2, k3, k4, k5⟩
      · exact .inl ⟨k1, by rw [k2]; exact h⟩
      · exact .inr ⟨d, f, k1, k2, k3, k4, by rw [k5]; exact h⟩
  · exact in_ok (n := false) p q e h
  · cases q1 : inD _ _ with
    | none => rw [q1] at e; cases e
    | some k' =>
      rw [q1] at e
      cases e
      exact in_ok (n := true) p q q1 h
  · simp only [RepI, Rep] at p q
    subst p q
    cases e
    exact .inl ⟨_, _, rfl, rfl, h⟩
  · simp only [RepI, Rep] at p q
    subst p q
    cases e
    exact .inr ⟨_, _, rfl, rfl, h⟩
  · simp only [RepI, Rep] at p q
    subst p q
    cases e
    exact ⟨_, _, rfl, rfl, h⟩
  · simp only [RepI, Rep] at p q
    subst p q
    cases e
    exact ⟨_, _, rfl, rfl, h⟩
  · simp only [RepI, Rep] at p q
    subst p q
    cases e
    exact ⟨_, _, rfl, rfl, h⟩
  · cases e
end
theorem mark_no {e : Expr} (h : isSet e = false) (o : CmpOp) : behindInMarks o e = false := by
  cases e <;> first | rfl | cases h
theorem se_cmp {o : CmpOp} {p : Cop} (h : copO o = some p) (hm : isSet e2 = false) (ha : SE g c e i) (hb : SE g c e2 i2) : SE g c (.Compare e [o] [e2] pos) (.cmp p i i2) := by
  obtain ⟨t, h1, h2⟩ := ha
  obtain ⟨t', h3, h4⟩ := hb
  refine ⟨L2.tOp (rCmp g.K p) t t', fun X hX => L2.pe_cmpR (by rw [← hX.K]; exact op_cmp hX.room.units h) (h1 X hX) (h3 X hX) (mark_no hm o), fun b σV ρ F H s Q rl h => ?_⟩
  simp only [evE] at h
  refine h.step (T := fun Q' => t σV H Q') (fun Q' q => h2 _ _ _ _ _ _ _ rl q) fun x s1 v ρ1 F1 H1 _ e1 r1 p1 q1 => ?_
  refine q1.step (T := fun Q' => t' σV H1 Q') (fun Q' q => h4 _ _ _ _ _ _ _ r1 q) fun y s2 u ρ2 F2 H2 _ e2 r2 p2 q2 => ?_
  obtain ⟨rv, e3, q3⟩ := q2.opt
  exact cmp_ok (drI r2 (Rep.mono (e2.toS r1) _ _ p1)) (drI r2 p2) e3 (q3.fin r2 (by simp only [RepR, Rep]))
/-- as a test -/
theorem sb_cmp {o : CmpOp} {p : Cop} (h : copO o = some p) (hm : isSet e2 = false) (ha : SE g c e i) (hb : SE g c e2 i2) : SB g c (.Compare e [o] [e2] pos) (.of (.cmp p i i2)) := by
  obtain ⟨t, h1, h2⟩ := ha
  obtain ⟨t', h3, h4⟩ := hb
  refine ⟨L2.tTest (L2.tOp (rCmp g.K p) t t'), fun X hX => L2.pt_cmpR (by rw [← hX.K]; exact op_cmp hX.room.units h) (h1 X hX) (h3 X hX) (mark_no hm o), fun b σV ρ F H s Q rl h => ?_⟩
  simp only [evB, evE] at h
  have h' : WG g.K g.Tb b σV ρ F H (fun _ _ _ _ k k' => k' = k) Q ((evE g.C g.D i s).b2 fun x s => (evE g.C g.D i2 s).b2 fun y s => (opt (cmpD p (drD s.M x.fz) (drD s.M y.fz))).bind fun r => .ok (r, s)) := by
    cases z : evE g.C g.D i s with
    | ok q =>
      obtain ⟨x, s1⟩ := q
      rw [z] at h
      simp only [Res.b2] at h ⊢
      cases z2 : evE g.C g.D i2 s1 with
      | ok q =>
        obtain ⟨y, s2⟩ := q
        rw [z2] at h
        simp only [Res.b2] at h ⊢
        cases z3 : cmpD p (drD s2.M x.fz) (drD s2.M y.fz) with
        | none => rw [z3] at h; exact h.elim
        | some k => rw [z3] at h; exact h
      | exc _ => rw [z2] at h; exact h.elim
      | bad => rw [z2] at h; exact h.elim
    | exc _ => rw [z] at h; exact h.elim
    | bad => rw [z] at h; exact h.elim
  refine h'.step (T := fun Q' => t σV H Q') (fun Q' q => h2 _ _ _ _ _ _ _ rl q) fun x s1 v ρ1 F1 H1 _ e1 r1 p1 q1 => ?_
  refine q1.step (T := fun Q' => t' σV H1 Q') (fun Q' q => h4 _ _ _ _ _ _ _ r1 q) fun y s2 u ρ2 F2 H2 _ e2 r2 p2 q2 => ?_
  obtain ⟨rv, e3, q3⟩ := q2.opt
  exact cmp_ok (drI r2 (Rep.mono (e2.toS r1) _ _ p1)) (drI r2 p2) e3 ⟨_, rfl, q3.fin r2 rfl⟩

/-! ### a < b < c -/
theorem marks_no {o o2 : CmpOp} {b d : Expr} (h : isSet d = false) : lastMarks [o, o2] [b, d] = false := mark_no h o2
theorem chn_sem {p p2 : Cop} {t t' t2 : TE} (h2 : ∀ b σV ρ F H s Q, Rl g.K g.Tb b σV ρ F H s → WG g.K g.Tb b σV ρ F H (RepR g.K b σV) Q (evE g.C g.D i s) → t σV H Q) (h4 : ∀ b σV ρ F H s Q, Rl g.K g.Tb b σV ρ F H s → WG g.K g.Tb b σV ρ F H (RepR g.K b σV) Q (evE g.C g.D i2 s) → t' σV H Q)
    (h6 : ∀ b σV ρ F H s Q, Rl g.K g.Tb b σV ρ F H s → WG g.K g.Tb b σV ρ F H (RepR g.K b σV) Q (evE g.C g.D i3 s) → t2 σV H Q) : ∀ b σV ρ F H s Q, Rl g.K g.Tb b σV ρ F H s → WG g.K g.Tb b σV ρ F H (RepR g.K b σV) Q (evE g.C g.D (.chn p p2 i i2 i3) s) → L2.tChain (rCmp g.K p) (rCmp g.K p2) t t' t2 σV H Q := by
  intro b σV ρ F H s Q rl h
  simp only [evE] at h
  refine h.step (T := fun Q' => t σV H Q') (fun Q' q => h2 _ _ _ _ _ _ _ rl q) fun x s1 v ρ1 F1 H1 _ e1 r1 p1 q1 => ?_
  refine q1.step (T := fun Q' => t' σV H1 Q') (fun Q' q => h4 _ _ _ _ _ _ _ r1 q) fun y s2 u ρ2 F2 H2 _ e2 r2 p2 q2 => ?_
  obtain ⟨k, e3, q3⟩ := q2.opt
  refine cmp_ok (drI r2 (Rep.mono (e2.toS r1) _ _ p1)) (drI r2 p2) e3 ⟨k, rfl, ?_⟩
  cases k with
  | false =>
    rw [if_neg (by decide)] at q3 ⊢
    exact q3.fin r2 (by simp only [RepR, Rep])
  | true =>
    rw [if_pos rfl] at q3 ⊢
    refine q3.step (T := fun Q' => t2 σV H2 Q') (fun Q' q => h6 _ _ _ _ _ _ _ r2 q) fun z s3 w ρ3 F3 H3 _ e3 r3 p3 q4 => ?_
    obtain ⟨k, e4, q5⟩ := q4.opt
    exact cmp_ok (drI r3 (Rep.mono (e3.toS r2) _ _ p2)) (drI r3 p3) e4 (q5.fin r3 (by simp only [RepR, Rep]))
theorem se_chn {o o2 : CmpOp} {p p2 : Cop} (h : copO o = some p) (hh : copO o2 = some p2) (hm : isSet e3 = false) (ha : SE g c e i) (hb : SE g c e2 i2) (hd : SE g c e3 i3) : SE g c (.Compare e [o, o2] [e2, e3] pos) (.chn p p2 i i2 i3) := by
  obtain ⟨t, h1, h2⟩ := ha
  obtain ⟨t', h3, h4⟩ := hb
  obtain ⟨t2, h5, h6⟩ := hd
  refine ⟨L2.tChain (rCmp g.K p) (rCmp g.K p2) t t' t2, fun X hX => L2.pe_chain (by rw [← hX.K]; exact op_cmp hX.room.units h) (by rw [← hX.K]; exact op_cmp hX.room.units hh) (h1 X hX) (h3 X hX) (h5 X hX) (marks_no hm), chn_sem h2 h4 h6⟩
theorem test_sem {t : TE} (sem : ∀ b σV ρ F H s Q, Rl g.K g.Tb b σV ρ F H s → WG g.K g.Tb b σV ρ F H (RepR g.K b σV) Q (evE g.C g.D i s) → t σV H Q) (hb : ∀ s x s1, evE g.C g.D i s = .ok (x, s1) → ∃ k, x = .val (.bl k)) :
    ∀ b σV ρ F H s Q, Rl g.K g.Tb b σV ρ F H s → WG g.K g.Tb b σV ρ F H (fun _ _ _ _ k k' => k' = k) Q (evB g.C g.D (.of i) s) → L2.tTest t σV H Q := by
  intro b σV ρ F H s Q rl h
  simp only [evB] at h
  refine sem _ _ _ _ _ _ _ rl ?_
  cases z : evE g.C g.D i s with
  | exc _ => rw [z] at h; exact h.elim
  | bad => rw [z] at h; exact h.elim
  | ok q =>
    obtain ⟨x, s1⟩ := q
    obtain ⟨k, rfl⟩ := hb _ _ _ z
    rw [z] at h
    have h' : WG g.K g.Tb b σV ρ F H (fun _ _ _ _ k k' => k' = k) Q (.ok (k, s1)) := h
    intro v ρ' F' H' e r p
    simp only [RepR, Rep] at p
    exact ⟨k, p, h' k ρ' F' H' e r rfl⟩
theorem b2_inv {α β : Type} {r : Res (α × S)} {f : α → S → Res β} {y : β} (h : r.b2 f = .ok y) : ∃ a s, r = .ok (a, s) ∧ f a s = .ok y := by
  cases r with
  | ok p => exact ⟨p.1, p.2, rfl, h⟩
  | exc _ => cases h
  | bad => cases h
theorem opt_inv {α β : Type} {r : Option α} {f : α → Res β} {y : β} (h : (opt r).bind f = .ok y) : ∃ a, r = some a ∧ f a = .ok y := by
  cases r with
  | some p => exact ⟨p, rfl, h⟩
  | none => cases h
theorem chn_bool {C : Calls} {D' : Nat → D} {p p2 : Cop} {s s' : S} {x : Rv} (h : evE C D' (.chn p p2 i i2 i3) s = .ok (x, s')) : ∃ k, x = .val (.bl k) := by
  simp only [evE] at h
  obtain ⟨a, s1, _, h⟩ := b2_inv h
  obtain ⟨b, s2, _, h⟩ := b2_inv h
  obtain ⟨k, _, h⟩ := opt_inv h
  split at h
  · obtain ⟨c, s3, _, h⟩ := b2_inv h
    obtain ⟨k2, _, h⟩ := opt_inv h
    cases h
    exact ⟨_, rfl⟩
  · cases h
    exact ⟨_, rfl⟩
theorem sb_chn {o o2 : CmpOp} {p p2 : Cop} (h : copO o = some p) (hh : copO o2 = some p2) (hm : isSet e3 = false) (ha : SE g c e i) (hb : SE g c e2 i2) (hd : SE g c e3 i3) : SB g c (.Compare e [o, o2] [e2, e3] pos) (.of (.chn p p2 i i2 i3)) := by
  obtain ⟨t, h1, h2⟩ := ha
  obtain ⟨t', h3, h4⟩ := hb
  obtain ⟨t2, h5, h6⟩ := hd
  refine ⟨L2.tTest (L2.tChain (rCmp g.K p) (rCmp g.K p2) t t' t2), fun X hX => L2.pt_chain (by rw [← hX.K]; exact op_cmp hX.room.units h) (by rw [← hX.K]; exact op_cmp hX.room.units hh) (h1 X hX) (h3 X hX) (h5 X hX) (marks_no hm), ?_⟩
  exact test_sem (chn_sem h2 h4 h6) fun s x s1 q => chn_bool q
/-! ### is None; and, or, not; a if t else b -/
theorem rep_non {K : PySem.W.Frag} {ρ : List Addr} {F : Addr → Prop} {H : Hp} {d : D} {v : V} (h : Rep K ρ F H d v) : decide (v = V.non) = isNon d := by
  cases d with
  | non => simp only [Rep] at h; subst h; rfl
  | bl _ => simp only [Rep] at h; subst h; rfl
  | int _ => simp only [Rep] at h; subst h; rfl
  | str _ => simp only [Rep] at h; subst h; rfl
  | tup _ => simp only [Rep] at h; obtain ⟨a, vs, rfl, _⟩ := h; rfl
  | lst _ => simp only [Rep] at h; obtain ⟨a, vs, rfl, _⟩ := h; rfl
  | dic _ _ => simp only [Rep] at h; obtain ⟨a, vs, rfl, _⟩ := h; rfl
  | ref _ => simp only [Rep] at h; obtain ⟨a, _, rfl⟩ := h; rfl
  | tpx _ => simp only [Rep] at h; obtain ⟨a, vs, o, rfl, _⟩ := h; rfl
theorem se_isn {j : Nat} {p2 : Pos} (ha : SE g c e i) : SE g c (.Compare e [.Is] [.Constant .none j p2] pos) (.isn i) := by
  obtain ⟨t, h1, h2⟩ := ha
  refine ⟨L2.tIsN t, fun X hX => L2.pe_cmp (L2.pc_isN (h1 X hX)) rfl, fun b σV ρ F H s Q rl h => ?_⟩
  simp only [evE] at h
  refine h.step (T := fun Q' => t σV H Q') (fun Q' q => h2 _ _ _ _ _ _ _ rl q) fun x s1 v ρ1 F1 H1 _ e1 r1 p1 q1 => ?_
  rw [rep_non p1]
  exact q1.fin r1 (by simp only [RepR, Rep])
theorem se_notn {j : Nat} {p2 : Pos} (ha : SE g c e i) : SE g c (.Compare e [.IsNot] [.Constant .none j p2] pos) (.notn i) := by
  obtain ⟨t, h1, h2⟩ := ha
  refine ⟨L2.tNotN t, fun X hX => L2.pe_cmp (L2.pc_notN (h1 X hX)) rfl, fun b σV ρ F H s Q rl h => ?_⟩
  simp only [evE] at h
  refine h.step (T := fun Q' => t σV H Q') (fun Q' q => h2 _ _ _ _ _ _ _ rl q) fun x s1 v ρ1 F1 H1 _ e1 r1 p1 q1 => ?_
  rw [rep_non p1]
  exact q1.fin r1 (by simp only [RepR, Rep])
/-- as tests -/
theorem sb_isn {j : Nat} {p2 : Pos} (ha : SE g c e i) : SB g c (.Compare e [.Is] [.Constant .none j p2] pos) (.of (.isn i)) := by
  obtain ⟨t, h1, h2⟩ := ha
  refine ⟨L2.tB (L2.tIsN t), fun X hX => L2.pt_cmp (L2.pc_isN (h1 X hX)) rfl, fun b σV ρ F H s Q rl h => ?_⟩
  simp only [evB, evE] at h
  have h' : WG g.K g.Tb b σV ρ F H (fun _ _ _ _ k k' => k' = k) Q ((evE g.C g.D i s).b2 fun x s => .ok (isNon x.fz, s)) := by
    cases z : evE g.C g.D i s with
    | ok q => rw [z] at h; exact h
    | exc _ => rw [z] at h; exact h.elim
    | bad => rw [z] at h; exact h.elim
  refine h'.step (T := fun Q' => t σV H Q') (fun Q' q => h2 _ _ _ _ _ _ _ rl q) fun x s1 v ρ1 F1 H1 _ e1 r1 p1 q1 => ?_
  rw [rep_non p1]
  exact ⟨_, rfl, q1.fin r1 rfl⟩
theorem sb_notn {j : Nat} {p2 : Pos} (ha : SE g c e i) : SB g c (.Compare e [.IsNot] [.Constant .none j p2] pos) (.of (.notn i)) := by
  obtain ⟨t, h1, h2⟩ := ha
  refine ⟨L2.tB (L2.tNotN t), fun X hX => L2.pt_cmp (L2.pc_notN (h1 X hX)) rfl, fun b σV ρ F H s Q rl h => ?_⟩
  simp only [evB, evE] at h
  have h' : WG g.K g.Tb b σV ρ F H (fun _ _ _ _ k k' => k' = k) Q ((evE g.C g.D i s).b2 fun x s => .ok (!isNon x.fz, s)) := by
    cases z : evE g.C g.D i s with
    | ok q => rw [z] at h; exact h
    | exc _ => rw [z] at h; exact h.elim
    | bad => rw [z] at h; exact h.elim
  refine h'.step (T := fun Q' => t σV H Q') (fun Q' q => h2 _ _ _ _ _ _ _ rl q) fun x s1 v ρ1 F1 H1 _ e1 r1 p1 q1 => ?_
  rw [rep_non p1]
  exact ⟨_, rfl, q1.fin r1 rfl⟩
theorem blOf_of {α β : Type} {K : PySem.W.Frag} {Tb : Addr → Prop} {b : Bx} {σV : L2.St} {ρ : List Addr} {F : Addr → Prop} {H : Hp} {R : List Addr → (Addr → Prop) → Hp → S → α → β → Prop} {Q : β → Hp → Prop} {x : Rv} {f : Bool → Res (α × S)} (h : WG K Tb b σV ρ F H R Q ((blOf x).bind f)) :
    ∃ k, x = .val (.bl k) ∧ WG K Tb b σV ρ F H R Q (f k) := by
  unfold blOf at h
  split at h
  · exact ⟨_, rfl, h⟩
  · exact h.elim
theorem se_one {o : BoolOp} (ha : SE g c e i) : SE g c (.BoolOp o [e] pos) i := by
  obtain ⟨t, h1, h2⟩ := ha
  exact ⟨t, fun X hX => L2.pe_one (h1 X hX), h2⟩
theorem se_and {r : List Expr} (ha : SE g c e i) (hb : SE g c (.BoolOp .And (e2 :: r) pos) i2) : SE g c (.BoolOp .And (e :: e2 :: r) pos) (.and i i2) := by
  obtain ⟨t, h1, h2⟩ := ha
  obtain ⟨t', h3, h4⟩ := hb
  refine ⟨L2.tAndV t t', fun X hX => L2.pe_and (h1 X hX) (h3 X hX), fun b σV ρ F H s Q rl h => ?_⟩
  simp only [evE] at h
  refine h.step (T := fun Q' => t σV H Q') (fun Q' q => h2 _ _ _ _ _ _ _ rl q) fun x s1 v ρ1 F1 H1 _ e1 r1 p1 q1 => ?_
  obtain ⟨k, rfl, q2⟩ := blOf_of q1
  simp only [Rv.fz, Rep] at p1
  refine ⟨k, p1, ?_⟩
  cases k with
  | true => exact h4 _ _ _ _ _ _ _ r1 q2
  | false => exact q2.fin r1 (by simp only [RepR, Rep])
theorem se_or {r : List Expr} (ha : SE g c e i) (hb : SE g c (.BoolOp .Or (e2 :: r) pos) i2) : SE g c (.BoolOp .Or (e :: e2 :: r) pos) (.or i i2) := by
  obtain ⟨t, h1, h2⟩ := ha
  obtain ⟨t', h3, h4⟩ := hb
  refine ⟨L2.tOrV t t', fun X hX => L2.pe_or (h1 X hX) (h3 X hX), fun b σV ρ F H s Q rl h => ?_⟩
  simp only [evE] at h
  refine h.step (T := fun Q' => t σV H Q') (fun Q' q => h2 _ _ _ _ _ _ _ rl q) fun x s1 v ρ1 F1 H1 _ e1 r1 p1 q1 => ?_
  obtain ⟨k, rfl, q2⟩ := blOf_of q1
  simp only [Rv.fz, Rep] at p1
  refine ⟨k, p1, ?_⟩
  cases k with
  | true => exact q2.fin r1 (by simp only [RepR, Rep])
  | false => exact h4 _ _ _ _ _ _ _ r1 q2
theorem se_not (ha : SE g c e i) : SE g c (.UnaryOp .Not e pos) (.not i) := by
  obtain ⟨t, h1, h2⟩ := ha
  refine ⟨L2.tNotV t, fun X hX => L2.pe_not (h1 X hX), fun b σV ρ F H s Q rl h => ?_⟩
  simp only [evE] at h
  refine h.step (T := fun Q' => t σV H Q') (fun Q' q => h2 _ _ _ _ _ _ _ rl q) fun x s1 v ρ1 F1 H1 _ e1 r1 p1 q1 => ?_
  obtain ⟨k, rfl, q2⟩ := blOf_of q1
  simp only [Rv.fz, Rep] at p1
  exact ⟨k, p1, q2.fin r1 (by simp only [RepR, Rep])⟩
theorem se_neg (ha : SE g c e i) : SE g c (.UnaryOp .USub e pos) (.neg i) := by
  obtain ⟨t, h1, h2⟩ := ha
  refine ⟨_, fun X hX => L2.pe_un L2.un_neg (h1 X hX), fun b σV ρ F H s Q rl h => ?_⟩
  simp only [evE] at h
  refine h.step (T := fun Q' => t σV H Q') (fun Q' q => h2 _ _ _ _ _ _ _ rl q) fun x s1 v ρ1 F1 H1 _ e1 r1 p1 q1 => ?_
  split at q1
  · simp only [Rv.fz, Rep] at p1
    exact ⟨_, p1, q1.fin r1 (by simp only [RepR, Rep])⟩
  · exact q1.elim
theorem se_ife {b : B} (hc : SB g c e b) (ha : SE g c e2 i2) (hb : SE g c e3 i3) : SE g c (.IfExp e e2 e3 pos) (.ife b i2 i3) := by
  obtain ⟨t, h1, h2⟩ := hc
  obtain ⟨t', h3, h4⟩ := ha
  obtain ⟨t2, h5, h6⟩ := hb
  refine ⟨_, fun X hX => L2.pe_ifExp (h1 X hX) (h3 X hX) (h5 X hX), fun b σV ρ F H s Q rl h => ?_⟩
  simp only [evE] at h
  refine h.part (T := fun Q' => t σV H Q') (fun Q' q => h2 _ _ _ _ _ _ _ rl q) fun k s1 k' ρ1 F1 H1 _ e1 r1 p1 q1 => ?_
  subst p1
  cases k' with
  | true => exact h4 _ _ _ _ _ _ _ r1 q1
  | false => exact h6 _ _ _ _ _ _ _ r1 q1
/-! ### tests -/
theorem sb_and1 (ha : SB g c e b) : SB g c e b := ha
def SW (g : Gd) (c : Cc) (e : Expr) (ir : B) : Prop := ∃ t : L2.TT, (∀ X, XOk g c X → L2.PW X e t) ∧
  ∀ b σV ρ F H s Q, Rl g.K g.Tb b σV ρ F H s → WG g.K g.Tb b σV ρ F H (fun _ _ _ _ k k' => k' = k) Q (evB g.C g.D ir s) → t σV H Q
theorem SW.b {b : B} (h : SW g c e b) : SB g c e b := let ⟨t, h1, h2⟩ := h; ⟨t, fun X hX => (h1 X hX).pt, h2⟩
theorem sw_and1 {b : B} (ha : SB g c e b) : SW g c (.BoolOp .And [e] pos) b := let ⟨t, h1, h2⟩ := ha; ⟨t, fun X hX => L2.pw_and1 (h1 X hX), h2⟩
theorem sw_or1 {b : B} (ha : SB g c e b) : SW g c (.BoolOp .Or [e] pos) b := let ⟨t, h1, h2⟩ := ha; ⟨t, fun X hX => L2.pw_or1 (h1 X hX), h2⟩
theorem sw_and {b b2 : B} {r : List Expr} (ha : SB g c e b) (hb : SW g c (.BoolOp .And (e2 :: r) pos) b2) : SW g c (.BoolOp .And (e :: e2 :: r) pos) (.and b b2) := by
  obtain ⟨t, h1, h2⟩ := ha
  obtain ⟨t', h3, h4⟩ := hb
  refine ⟨_, fun X hX => L2.pw_and (h1 X hX) (h3 X hX), fun b σV ρ F H s Q rl h => ?_⟩
  simp only [evB] at h
  refine h.part (T := fun Q' => t σV H Q') (fun Q' q => h2 _ _ _ _ _ _ _ rl q) fun k s1 k' ρ1 F1 H1 _ e1 r1 p1 q1 => ?_
  subst p1
  cases k' with
  | true => exact h4 _ _ _ _ _ _ _ r1 q1
  | false => exact q1.fin r1 rfl
theorem sw_or {b b2 : B} {r : List Expr} (ha : SB g c e b) (hb : SW g c (.BoolOp .Or (e2 :: r) pos) b2) : SW g c (.BoolOp .Or (e :: e2 :: r) pos) (.or b b2) := by
  obtain ⟨t, h1, h2⟩ := ha
  obtain ⟨t', h3, h4⟩ := hb
  refine ⟨_, fun X hX => L2.pw_or (h1 X hX) (h3 X hX), fun b σV ρ F H s Q rl h => ?_⟩
  simp only [evB] at h
  refine h.part (T := fun Q' => t σV H Q') (fun Q' q => h2 _ _ _ _ _ _ _ rl q) fun k s1 k' ρ1 F1 H1 _ e1 r1 p1 q1 => ?_
  subst p1
  cases k' with
  | true => exact q1.fin r1 rfl
  | false => exact h4 _ _ _ _ _ _ _ r1 q1
theorem sb_not {b : B} (ha : SB g c e b) : SB g c (.UnaryOp .Not e pos) (.not b) := by
  obtain ⟨t, h1, h2⟩ := ha
  refine ⟨_, fun X hX => L2.pt_not (h1 X hX), fun b σV ρ F H s Q rl h => ?_⟩
  simp only [evB] at h
  refine h.part (T := fun Q' => t σV H Q') (fun Q' q => h2 _ _ _ _ _ _ _ rl q) fun k s1 k' ρ1 F1 H1 _ e1 r1 p1 q1 => ?_
  subst p1
  exact q1.fin r1 rfl
section
variable {K : PySem.W.Frag} {Tb : Addr → Prop} {b : Bx} {σV : L2.St} {ρ : List Addr} {F : Addr → Prop} {H : Hp} {s : S}
theorem empty_len {α β : Type} {l : List α} {m : List β} (h : l.length = m.length) : (!m.isEmpty) = !l.isEmpty := by
  cases l <;> cases m <;> first | rfl | (simp at h)
theorem tru_ok {d : D} {v : V} {k : Bool} (p : RepI K ρ F H d v) (e : truD d = some k) : L2.TruV K v H k := by
  unfold truD at e
  split at e
  · simp only [RepI, Rep] at p; subst p; cases e; rfl
  · simp only [RepI, Rep] at p; subst p; cases e; rfl
  · simp only [RepI, Rep] at p; subst p; cases e; rfl
  · simp only [RepI, Rep] at p
    subst p
    split at e
    · cases e; exact ⟨by assumption, rfl⟩
    · cases e
  · simp only [RepI, Rep] at p
    obtain ⟨a, vs, rfl, h1, h2⟩ := p
    cases e
    exact .inr (.inl ⟨vs, h1, empty_len h2.length⟩)
  · obtain ⟨a, vs, rfl, h1, h2⟩ := p
    cases e
    exact .inl ⟨vs, h1, empty_len h2.length⟩
  · cases e
  · cases e
  · cases e
end
/-- an expression that isTrue reads as it stands -/
def plainT : Expr → Bool
  | .BoolOp .. => false
  | .UnaryOp .Not _ _ => false
  | .Compare .. => false
  | .IfExp .. => false
  | .NamedExpr .. => false
  | _ => true
theorem sb_of (hp : plainT e = true) (ha : SE g c e i) : SB g c e (.of i) := by
  obtain ⟨t, h1, h2⟩ := ha
  refine ⟨fun σ H Q => t σ H fun x H' => ∃ k, L2.TruV g.K x H' k ∧ Q k H', fun X hX => ?_, fun b σV ρ F H s Q rl h => ?_⟩
  · rw [← hX.K]
    refine L2.pt_truth (h1 X hX) fun w => ?_
    cases e <;> first | rfl | cases hp | (rename_i o _ _; cases o <;> first | rfl | cases hp)
  · simp only [evB] at h
    refine h.step (T := fun Q' => t σV H Q') (fun Q' q => h2 _ _ _ _ _ _ _ rl q) fun x s1 v ρ1 F1 H1 _ e1 r1 p1 q1 => ?_
    obtain ⟨k, e3, q3⟩ := q1.opt
    exact ⟨k, tru_ok (drI r1 p1) e3, q3.fin r1 rfl⟩
end
end Ev


set_option Elab.async false
set_option linter.all false
set_option maxRecDepth 100000
set_option maxHeartbeats 1000000
/-! EvE: items, slices, calls. -/
namespace Ev
open PySem
open L2 (V Hp HO SqL SqT Rd upd upd_same upd_ne Same TE VK PE PT PW PA XK Sp FnOk Binds Room CX0 E0 Cx OpR CallR R2)
section
variable {K : PySem.W.Frag} {Tb : Addr → Prop} {b : Bx} {σV : L2.St} {ρ : List Addr} {F : Addr → Prop} {H : Hp} {s : S} {Q : VK}
/-! ### items -/
theorem atI_rep {l : List D} {vs : List V} {i : Int} {d : D} (r : Reps K ρ F H l vs) (e : L2.atI l i = some d) : ∃ v, L2.atI vs i = some v ∧ Rep K ρ F H d v := by
  unfold L2.atI at e ⊢
  rw [r.length]
  cases q : L2.ixN l.length i with
  | none => rw [q] at e; cases e
  | some j =>
    rw [q] at e
    exact r.get e
def rIxD : R2 := fun x y H Q => ∃ a v, x = .ref a ∧ L2.DGet H a y (some v) ∧ Q v H
theorem ix_dict {X : Cx} (hu : X.A.units + 1 < cLine) : L2.IxR X rIxD := by
  intro value slice pins s σ H x y v u Q I rx ry h hs
  obtain ⟨a, w, rfl, g, q⟩ := h
  obtain rfl : v = Value.ref a := rx
  exact PyProof.Rows.tail_any (ops := [.ref a, u]) (L2.dict_typeIs I g) PySem.F.slot_dict_getitem.lookup (L2.d_getItem hu I g ry fun w' s3 I3 rw' => ⟨w, H, I3, rw', q⟩) hs
theorem lk_get {k : Key} {d : D} : ∀ {kvs : List (Key × V)} {ds : List D}, Reps K ρ F H ds (kvs.map (·.2)) → lkD (kvs.map (·.1)) ds k = some d → ∃ v, L2.valV kvs k = some v ∧ Rep K ρ F H d v
  | [], ds, h, e => by cases ds <;> cases e
  | p :: r, ds, h, e => by
    cases ds with
    | nil => simp only [Reps] at h; cases h
    | cons d' ds =>
      simp only [List.map_cons, Reps] at h
      obtain ⟨v, u, z, h1, h2⟩ := h
      cases z
      by_cases q : p.1 = k
      · simp only [List.map_cons, lkD, if_pos q] at e
        cases e
        exact ⟨p.2, L2.valV_pos q, h1⟩
      · simp only [List.map_cons, lkD, if_neg q] at e
        obtain ⟨w, w1, w2⟩ := lk_get h2 e
        exact ⟨w, by rw [L2.valV_neg q]; exact w1, w2⟩
def rIxA (K : PySem.W.Frag) : R2 := fun x y H Q => ((L2.rIxL K x y H Q ∨ L2.rIxT K x y H Q) ∨ L2.rIxS x y H Q) ∨ rIxD x y H Q
theorem ix_ok {x y d : D} {v u : V} (p : RepI K ρ F H x v) (q : Rep K ρ F H y u) (e : ixD x y = some d) (h : ∀ w, Rep K ρ F H d w → Q w H) : rIxA K v u H Q := by
  unfold ixD at e
  split at e
  · rename_i l i
    simp only [Rep] at q
    subst q
    simp only [RepI, Rep] at p
    obtain ⟨a, vs, rfl, h1, h2⟩ := p
    obtain ⟨w, h3, h4⟩ := atI_rep h2 e
    exact .inl (.inl (.inr ⟨a, vs, i, w, rfl, rfl, h1, h3, h w h4⟩))
  · rename_i l i
    simp only [Rep] at q
    subst q
    obtain ⟨a, vs, rfl, h1, h2⟩ := p
    obtain ⟨w, h3, h4⟩ := atI_rep h2 e
    exact .inl (.inl (.inl ⟨a, vs, i, w, rfl, rfl, h1, h3, h w h4⟩))
  · rename_i z i
    simp only [Rep] at q
    subst q
    simp only [RepI, Rep] at p
    subst p
    unfold strAt at e
    split at e
    · rename_i hz
      cases ec : L2.atI z.cps.toList i with
      | none => rw [ec] at e; cases e
      | some c =>
        rw [ec] at e
        cases e
        exact .inl (.inr ⟨z, i, c, rfl, rfl, hz, ec, h _ (by simp only [Rep])⟩)
    · cases e
  · rename_i ks vs
    obtain ⟨a, kvs, rfl, h1, rfl, h2⟩ := p
    cases ek : keyD y with
    | none => rw [ek] at e; cases e
    | some k =>
      rw [ek] at e
      obtain ⟨w, w1, w2⟩ := lk_get h2 e
      have eu : u = L2.kV k := by
        cases y <;> first | (cases ek; done) | skip
        all_goals
          simp only [keyD, Option.some.injEq] at ek
          subst ek
          simp only [Rep] at q
          exact q
      exact .inr ⟨a, w, rfl, .inl ⟨kvs, k, .inl h1, eu, w1.symm⟩, h w w2⟩
  · cases e
end
section
variable {g : Gd} {c : Cc} {pos : Pos} {e e2 e3 : Expr} {i i2 i3 : E}
theorem plain_ix (h : isSlice e = false) : L2.PlainIx e := fun o k => by
  cases e <;> first | rfl | cases h
theorem se_ix (hs : isSlice e2 = false) (ha : SE g c e i) (hb : SE g c e2 i2) : SE g c (.Subscript e e2 pos) (.ix i i2) := by
  obtain ⟨t, h1, h2⟩ := ha
  obtain ⟨t', h3, h4⟩ := hb
  refine ⟨L2.tOp (rIxA g.K) t t', fun X hX => L2.pe_ix (by rw [← hX.K]; exact ((L2.ix_list.or L2.ix_tup).or L2.ix_str).or (ix_dict (by have := hX.room.units; omega))) (h1 X hX) (h3 X hX) (plain_ix hs), fun b σV ρ F H s Q rl h => ?_⟩
  simp only [evE] at h
  refine h.step (T := fun Q' => t σV H Q') (fun Q' q => h2 _ _ _ _ _ _ _ rl q) fun x s1 v ρ1 F1 H1 _ e1 r1 p1 q1 => ?_
  refine q1.step (T := fun Q' => t' σV H1 Q') (fun Q' q => h4 _ _ _ _ _ _ _ r1 q) fun y s2 u ρ2 F2 H2 _ e2 r2 p2 q2 => ?_
  obtain ⟨d, e3, q3⟩ := q2.opt
  exact ix_ok (drI r2 (Rep.mono (e2.toS r1) _ _ p1)) p2 e3 fun w hw => q3.fin r2 hw
/-! ### slices -/
def SO (g : Gd) (c : Cc) (e : Option Expr) (ir : E) : Prop := ∃ t : L2.TO, (∀ X, XOk g c X → L2.PO X e t) ∧
  ∀ b σV ρ F H s Q, Rl g.K g.Tb b σV ρ F H s → WG g.K g.Tb b σV ρ F H (fun _ _ _ _ k k' => k' = k) Q ((evE g.C g.D ir s).b2 fun y s => (opt (partD (isNo ir) y.fz)).bind fun l => .ok (l, s)) → t σV H Q
theorem so_none : SO g c none .none := ⟨_, fun _ _ => L2.po_none, fun b σV ρ F H s Q rl h => by
  simp only [evE, Res.b2, Rv.fz, partD, isNo, opt, Res.bind, if_true] at h
  exact h.fin rl rfl⟩
theorem so_some (hn : isNo i = false) (ha : SE g c e i) : SO g c (some e) i := by
  obtain ⟨t, h1, h2⟩ := ha
  refine ⟨_, fun X hX => L2.po_some (h1 X hX), fun b σV ρ F H s Q rl h => ?_⟩
  refine h.step (T := fun Q' => t σV H Q') (fun Q' q => h2 _ _ _ _ _ _ _ rl q) fun x s1 v ρ1 F1 H1 _ e1 r1 p1 q1 => ?_
  obtain ⟨d, e3, q3⟩ := q1.opt
  rw [hn] at e3
  unfold partD at e3
  split at e3
  · cases e3
  · rename_i k z
    rw [z] at p1
    simp only [Rep] at p1
    cases e3
    exact ⟨k, p1, q3.fin r1 rfl⟩
  · cases e3
section
variable {K : PySem.W.Frag} {Tb : Addr → Prop} {b : Bx} {σV : L2.St} {ρ : List Addr} {F : Addr → Prop} {H : Hp} {s : S} {Q : VK}
theorem cut_rep {l : List D} {vs : List V} {lo hi : Option Int} (r : Reps K ρ F H l vs) : Reps K ρ F H (cutD l lo hi) (L2.cutV vs lo hi) := by
  unfold cutD L2.cutV
  rw [r.length]
  exact (r.drop _).take _
theorem cut_all {l : List D} {lo hi : Option Int} (h : HT.sIx l.length 0 lo = 0 ∧ HT.sIx l.length l.length hi = l.length) : cutD l lo hi = l := by
  unfold cutD
  rw [h.1, h.2, List.drop_zero, Nat.sub_zero, List.take_length]
def rSl (K : PySem.W.Frag) : V → Option Int → Option Int → Hp → VK → Prop := fun x lo hi H Q => (L2.rSlA K x lo hi H Q ∨ L2.rSlL K x lo hi H Q) ∨ L2.rSlS x lo hi H Q
theorem sl_ok {x : D} {v : V} {lo hi : Option Int} {rv : Rv} (rl : Rl K Tb b σV ρ F H s) (p : RepI K ρ F H x v) (e : slD x lo hi = some rv) (h : WG K Tb b σV ρ F H (RepR K b σV) Q (.ok (rv, s))) : rSl K v lo hi H Q := by
  unfold slD at e
  split at e
  · simp only [RepI, Rep] at p
    obtain ⟨a, vs, rfl, h1, h2⟩ := p
    cases e
    refine .inl (.inl ⟨a, vs, rfl, h1, fun w => h.fin rl ?_, fun _ p hp => h.fin' (same_upd hp) rl (Rep.newT hp (cut_rep h2))⟩)
    rw [h2.length] at w
    rw [cut_all w]
    simp only [RepR, Rep]
    exact ⟨a, vs, rfl, h1, h2⟩
  · simp only [RepI, Rep] at p
    obtain ⟨a, vs, rfl, h1, h2⟩ := p
    cases e
    exact .inl (.inr ⟨a, vs, rfl, h1, fun p hp => h.fin' (same_upd hp) rl (RepR.new rl hp (cut_rep h2))⟩)
  · simp only [RepI, Rep] at p
    subst p
    split at e
    · cases e
      exact .inr ⟨_, rfl, by assumption, h.fin rl (by simp only [RepR, Rep])⟩
    · cases e
  · cases e
end
theorem se_sl {lo hi : Option Expr} {p2 : Pos} (ha : SE g c e i) (hl : SO g c lo i2) (hh : SO g c hi i3) : SE g c (.Subscript e (.Slice lo hi none p2) pos) (.sl i i2 i3) := by
  obtain ⟨t, h1, h2⟩ := ha
  obtain ⟨t', h3, h4⟩ := hl
  obtain ⟨t2, h5, h6⟩ := hh
  refine ⟨L2.tSl (rSl g.K) t t' t2, fun X hX => L2.pe_slice (by rw [← hX.K]; exact L2.SlR.or (L2.SlR.or L2.sl_tupA L2.sl_list) L2.sl_str) (h1 X hX) (h3 X hX) (h5 X hX), fun b σV ρ F H s Q rl h => ?_⟩
  simp only [evE] at h
  refine h.step (T := fun Q' => t σV H Q') (fun Q' q => h2 _ _ _ _ _ _ _ rl q) fun x s1 v ρ1 F1 H1 _ e1 r1 p1 q1 => ?_
  refine q1.part (T := fun Q' => t' σV H1 Q') (fun Q' q => h4 _ _ _ _ _ _ _ r1 q) fun l s2 l' ρ2 F2 H2 _ e2 r2 p2 q2 => ?_
  subst p2
  refine q2.part (T := fun Q' => t2 σV H2 Q') (fun Q' q => h6 _ _ _ _ _ _ _ r2 q) fun l s3 l2 ρ3 F3 H3 _ e3 r3 p3 q3 => ?_
  subst p3
  obtain ⟨rv, e4, q4⟩ := q3.opt
  exact sl_ok r3 (drI r3 (Rep.mono ((e2.trans e3).toS r1) _ _ p1)) e4 q4

/-! ### isinstance -/
def tyS : Ty → String
  | .int => "int" | .bool => "bool" | .str => "str" | .tuple => "tuple" | .list => "list" | .dict => "dict"
def tyN : D → String
  | .non => "NoneType" | .bl _ => "bool" | .int _ => "int" | .str _ => "str" | .tup _ => "tuple" | .lst _ => "list" | .dic _ _ => "dict" | .ref _ => "list" | .tpx _ => "tuple"
theorem kit_all : (["NoneType", "bool", "int", "str", "tuple", "list", "dict"].all fun a => [Ty.int, .bool, .str, .tuple, .list, .dict].all fun t => decide (L2.kitB a (tyS t) = some (a == tyS t || (a == "bool" && tyS t == "int")))) = true := by decide +kernel
theorem tyN_mem (d : D) : tyN d ∈ ["NoneType", "bool", "int", "str", "tuple", "list", "dict"] := by cases d <;> simp [tyN]
theorem kit_of {d : D} {t : Ty} {k : Bool} (e : isTy t d = some k) : L2.kitB (tyN d) (tyS t) = some k := by
  have h := kit_all
  rw [List.all_eq_true] at h
  have h1 := h _ (tyN_mem d)
  rw [List.all_eq_true] at h1
  have h2 := of_decide_eq_true (h1 t (by cases t <;> simp))
  rw [h2]
  congr 1
  unfold isTy at e
  split at e <;> first | (cases e; done) | (cases e; rfl) | skip
  cases e
  rename_i n1 n2 n3 n4 n5 n6 n7 n8 n9
  cases t <;> cases d <;> first | rfl | (exfalso; first | exact n1 _ rfl | exact n2 _ rfl rfl | exact n3 _ rfl rfl | exact n4 _ rfl rfl | exact n5 _ rfl rfl | exact n6 _ rfl rfl | exact n7 _ rfl rfl | exact n8 _ rfl rfl | exact n9 _ _ rfl rfl)
theorem ty_ok {K : PySem.W.Frag} {ρ : List Addr} {F : Addr → Prop} {H : Hp} {d : D} {v : V} (h : Rep K ρ F H d v) (n : ∀ k, d ≠ .ref k) : L2.TyX K H v (.type (tyN d)) := by
  cases d with
  | non => simp only [Rep] at h; subst h; exact .base .non
  | bl _ => simp only [Rep] at h; subst h; exact .base (.bl _)
  | int _ => simp only [Rep] at h; subst h; exact .base (.int _)
  | str _ => simp only [Rep] at h; subst h; exact .base (.str _)
  | tup _ =>
    simp only [Rep] at h
    obtain ⟨a, vs, rfl, h1, _⟩ := h
    rcases h1 with (h1 | ⟨o, h1⟩) | ⟨o, _, _, h1, h2, _⟩
    · exact .base (.tup h1)
    · exact .fTuple h1
    · exact .kTuple h1 h2
  | lst _ =>
    simp only [Rep] at h
    obtain ⟨a, vs, rfl, h0, _⟩ := h
    rcases h0.sq K F H with (h1 | ⟨o, h1⟩) | ⟨o, _, _, h1, h2, _⟩
    · exact .base (.lst h1)
    · exact .base (.frz h1)
    · exact .kList h1 h2
  | dic _ _ =>
    simp only [Rep] at h
    obtain ⟨a, vs, rfl, _, h1, _⟩ := h
    exact .base (.dK h1)
  | ref k => exact absurd rfl (n k)
  | tpx _ =>
    simp only [Rep] at h
    obtain ⟨a, vs, o, rfl, h1, _⟩ := h
    exact .fTuple h1
theorem isTy_ref {t : Ty} {d : D} {k : Bool} (e : isTy t d = some k) : ∀ n, d ≠ .ref n := fun n z => by
  subst z
  unfold isTy at e
  cases t <;> cases e
theorem tyO_of {x : Str} {t : Ty} (h : tyO x = some t) : x = Str.ofString (tyS t) ∧ bootBuiltins x = some (.type (tyS t)) := by
  unfold tyO at h
  repeat' (split at h)
  all_goals first | (cases h; done) | skip
  all_goals
    rename_i z
    cases h
    subst z
    exact ⟨rfl, by decide +kernel⟩
theorem boot_isi : bootBuiltins "isinstance" = some (.builtin "isinstance") := by decide +kernel
theorem se_isi {gt : List (Str × Gv)} (gk : GOk g gt) (hc : c.gt = gt) {f x : Str} {t : Ty} {p p2 : Pos} (hf : isBlt c f "isinstance" = true) (hx : isBlt c x x = true) (ht : tyO x = some t) (hs : isStar e = false) (ha : SE g c e i) :
    SE g c (.Call (.Name f p) [e, .Name x p2] [] pos) (.isi i t) := by
  obtain ⟨t', h1, h2⟩ := ha
  obtain ⟨rfl, h3⟩ := isBlt_of hf
  obtain ⟨_, h4⟩ := isBlt_of hx
  obtain ⟨h5, h6, h7⟩ := globV_of h3
  obtain ⟨h8, h9, h10⟩ := globV_of h4
  obtain ⟨_, hb⟩ := tyO_of ht
  obtain ⟨o1, o2, o3⟩ := okName_of h7
  obtain ⟨o4, o5, o6⟩ := okName_of h10
  refine ⟨L2.tCB (L2.rIsi g.K) (L2.tCons t' (L2.tCons (L2.tC (.ty (tyS t))) L2.tNil)), fun X hX => ?_, fun b σV ρ F H s Q rl h => ?_⟩
  · refine L2.pe_callB (by rw [← hX.K]; exact L2.call_isi) (hX.gl h3) (by rw [hX.mg]; exact gk.blt _ (hc ▸ h6)) boot_isi ?_ o3 o1 (star_no hs _ _) rfl
    exact L2.pa_cons (h1 X hX) (L2.pa_cons (L2.pe_bltn (v := .ty (tyS t)) (hX.gl h4) (by rw [hX.mg]; exact gk.blt _ (hc ▸ h9)) hb rfl o6 o4) L2.pa_nil rfl) (star_no hs _ _)
  · simp only [evE] at h
    refine h.step (T := fun Q' => t' σV H Q') (fun Q' q => h2 _ _ _ _ _ _ _ rl q) fun x s1 v ρ1 F1 H1 _ e1 r1 p1 q1 => ?_
    obtain ⟨k, e3, q3⟩ := q1.opt
    exact ⟨_, _, _, _, k, rfl, .ty _, ty_ok p1 (isTy_ref e3), L2.kit_ty (kit_of e3), q3.fin r1 (by simp only [RepR, Rep])⟩
end
end Ev


set_option Elab.async false
set_option linter.all false
set_option maxRecDepth 100000
set_option maxHeartbeats 1000000
/-! EvF: calls of defs and of built-ins. -/
namespace Ev
open PySem
open L2 (V Hp HO SqL SqT Rd upd upd_same upd_ne Same TE VK PE PT PW PA XK Sp FnOk Binds Room CX0 E0 Cx OpR CallR R2)
def lenEs : Es → Nat
  | .nil => 0
  | .cons _ es => lenEs es + 1
theorem evEs_len {C : Calls} {D' : Nat → D} : ∀ {is : Es} {s s' : S} {l : List D}, evEs C D' is s = .ok (l, s') → l.length = lenEs is
  | .nil, s, s', l, h => by
    simp only [evEs] at h
    cases h
    rfl
  | .cons e es, s, s', l, h => by
    simp only [evEs] at h
    cases z : evE C D' e s with
    | ok q =>
      obtain ⟨x, s1⟩ := q
      rw [z] at h
      simp only [Res.b2] at h
      cases z2 : evEs C D' es s1 with
      | ok q =>
        obtain ⟨xs, s2⟩ := q
        rw [z2] at h
        simp only [Res.b2] at h
        cases h
        have := evEs_len z2
        simp only [List.length_cons, lenEs, this]
      | exc _ => rw [z2] at h; cases h
      | bad => rw [z2] at h; cases h
    | exc _ => rw [z] at h; cases h
    | bad => rw [z] at h; cases h
section
variable {K : PySem.W.Frag} {Tb : Addr → Prop} {b : Bx} {σV : L2.St} {ρ ρ' : List Addr} {F F' : Addr → Prop} {H H' : Hp} {s : S} {Q : VK}
theorem Rl.memOk (r : Rl K Tb b σV ρ F H s) : MemOk K Tb ρ F H s.M := ⟨r.mem, r.ml, r.nd, fun a m => (r.rf a m).1, r.ft, r.tab⟩
/-- behind a call -/
theorem Rl.call (r : Rl K Tb b σV ρ F H s) (x : ExE ρ F H ρ' F' H') (f : ∀ a, F' a → F a ∨ H a = none) {M : Mem} (m : MemOk K Tb ρ' F' H' M) : Rl K Tb b σV ρ' F' H' { s with M := M } := by
  have xs := x.toS r
  obtain ⟨m1, m2, m3, m4, m5, m6⟩ := m
  refine ⟨r.len, fun i d e => ?_, fun i l e => ?_, r.apart, m1, m2, m3, fun a ha => ⟨m4 a ha, fun q => ?_⟩, fun a ha => ?_, m5, fun a ha => ?_, fun a o q n t => ?_, fun a o q t => ?_, fun a q => ?_, fun a ha => ?_, m6⟩
  · obtain ⟨v, q, t⟩ := r.val i d e
    exact ⟨v, q, Rep.mono xs _ _ t⟩
  · obtain ⟨a, vs, q, o⟩ := r.own i l e
    refine ⟨a, vs, q, o.mono xs (x.all _ _ o.at_ o.nr id) (fun z => ?_) fun z => ?_⟩
    · rcases f a z with z | z
      · exact o.nf z
      · rw [o.at_] at z; cases z
    · rcases x.rn a z with z | z
      · exact o.nr z
      · rw [o.at_] at z; cases z
  · rcases x.rn a ha with z | z
    · exact (r.rf a z).2 q
    · obtain ⟨_, o, w, _⟩ := r.pt a q
      rw [w] at z; cases z
  · rcases x.rn a ha with z | z
    · exact r.rn a z
    · exact .inr (r.free z).2.2.1
  · rcases f a ha with z | z
    · exact r.fn a z
    · exact .inr (r.free z).2.2.1
  · refine x.all a o (r.old a o q n t) (fun z => ?_) t
    rcases r.rn a z with w | w
    · exact n w
    · rw [w] at q; cases q
  · obtain ⟨o1, q1, t1⟩ := r.oldT a o q t
    exact x.tbl a o1 q1 t1
  · obtain ⟨z1, o, w, t⟩ := r.pt a q
    refine ⟨fun z => ?_, o, x.all a o w (fun z => (r.rf a z).2 q) t, t⟩
    rcases f a z with z | z
    · exact z1 z
    · rw [w] at z; cases z
  · obtain ⟨n, hn, e⟩ := List.getElem_of_mem (r.bp a ha)
    have : ρ[n]? = some a := by rw [← e]; simp [hn]
    exact List.mem_of_getElem? (x.pre n a this)
theorem RepC.r (r : Rl K Tb b σV ρ F H s) {rv : Rv} {v : V} {M : Mem} (h : RepC K H ρ' F' H' rv v) : RepR K b σV ρ' F' H' { s with M := M } rv v := by
  cases rv with
  | un => exact h
  | val d => exact h
  | mls l =>
    obtain ⟨a, vs, rfl, h1, h2, h3, h4, h5⟩ := h
    obtain ⟨_, _, k1, k2, k3⟩ := r.free h5
    exact ⟨a, vs, rfl, ⟨h1, h2, h3, h4, k1, k2⟩, k3⟩
theorem call_ok {C : Calls} {i ar : Nat} {l : List D} {vs : List V} {E : XK} (r : Rl K Tb b σV ρ F H s) (hl : l.length = ar) (p : Reps K ρ F H l vs) (h : WG K Tb b σV ρ F H (RepR K b σV) Q ((C i l s.M).bind fun r => .ok (r.1, { s with M := r.2 }))) : spOf K Tb C i ar vs H Q E := by
  refine ⟨by rw [p.length]; exact hl, l, ρ, F, s.M, p, r.memOk, ?_⟩
  cases z : C i l s.M with
  | ok q =>
    obtain ⟨rv, M'⟩ := q
    rw [z] at h
    intro v ρ' F' H' x f m t
    exact h v ρ' F' H' x (r.call x f m) (t.r r)
  | exc _ => rw [z] at h; exact h.elim
  | bad => rw [z] at h; exact h.elim
end
section
variable {g : Gd} {c : Cc} {pos : Pos} {e e2 e3 : Expr} {i i2 i3 : E}
theorem noStars : ∀ {es : List Expr}, es.all (fun e => !isStar e) = true → ∀ (p : Pos) (env : Env), (backTo p (starEach es env)).any (·.1) = false
  | [], _, _, _ => rfl
  | e :: es, h, p, env => by
    simp only [List.all_cons, Bool.and_eq_true, Bool.not_eq_true'] at h
    rw [star_no h.1]
    show (false || (backTo p (starEach es env)).any (·.1)) = false
    rw [noStars h.2]
    rfl
theorem se_call {gt : List (Str × Gv)} (gk : GOk g gt) (hc : c.gt = gt) {f : Str} {n ar : Nat} {es : List Expr} {is : Es} {p : Pos} (hf : globV c f = some (.fn n ar)) (har : ar = lenEs is) (hnil : es = [] → is = .nil) (hst : es.all (fun e => !isStar e) = true) (ha : SEs g c es is) : SE g c (.Call (.Name f p) es [] pos) (.call n is) := by
  obtain ⟨t, h1, h2⟩ := ha
  obtain ⟨h5, h6, h7⟩ := globV_of hf
  obtain ⟨o1, o2, o3⟩ := okName_of h7
  obtain ⟨fa, fd, ps, k1, k2, k3, k4, k5⟩ := gk.fn f n ar (hc ▸ h6)
  have sem : ∀ b σV ρ F H s Q, Rl g.K g.Tb b σV ρ F H s → WG g.K g.Tb b σV ρ F H (RepR g.K b σV) Q (evE g.C g.D (.call n is) s) → L2.tCall (spOf g.K g.Tb g.C n ar) [] E0 t σV H Q := fun b σV ρ F H s Q rl h => by
    simp only [evE] at h
    refine h.part (T := fun Q' => t σV H Q') (fun Q' q => h2 _ _ _ _ _ _ _ rl q) fun l s1 vs ρ1 F1 H1 eq e1 r1 p1 q1 => ?_
    rw [List.append_nil]
    exact call_ok r1 (by rw [har]; exact evEs_len eq) p1 q1
  have fact : ∀ X, XOk g c X → FnOk X.prog X.w X.K X.mg X.base CX0 g.k fa fd ps (spOf g.K g.Tb g.C n ar) := fun X hX => by
    rw [hX.P, hX.w, hX.K, hX.mg, hX.base]; exact k3
  cases es with
  | nil =>
    refine ⟨_, fun X hX => L2.pe_call0 (sp := spOf g.K g.Tb g.C n ar) (dvs := []) (fact X hX) (hX.room.mono (Nat.le_add_right _ _)) (hX.gl hf) (by rw [hX.mg]; exact k1) (by rw [hX.K]; exact k2) (by rw [hX.K]; exact k4) .nil L2.pass0 o1, fun b σV ρ F H s Q rl h => ?_⟩
    obtain rfl := hnil rfl
    simp only [evE, evEs, Res.b2] at h
    show spOf g.K g.Tb g.C n ar ([] ++ []) H Q E0
    exact call_ok rl (by rw [har]; rfl) Reps.nil h
  | cons e es =>
    simp only [List.all_cons, Bool.and_eq_true, Bool.not_eq_true'] at hst
    exact ⟨_, fun X hX => L2.pe_call (sp := spOf g.K g.Tb g.C n ar) (dvs := []) (fact X hX) (hX.room.mono (Nat.le_add_right _ _)) (hX.gl hf) (by rw [hX.mg]; exact k1) (by rw [hX.K]; exact k2) (by rw [hX.K]; exact k4) .nil L2.pass0 (h1 X hX) o1 (star_no hst.1 _ _) (noStars hst.2 _ _), sem⟩

/-! ### built-ins of one argument -/
section
variable {K : PySem.W.Frag} {Tb : Addr → Prop} {b : Bx} {σV : L2.St} {ρ ρ' : List Addr} {F F' : Addr → Prop} {H H' : Hp} {s : S} {Q : VK}
theorem ints_rep : ∀ {l : List D} {vs : List V} {r : List Int}, Reps K ρ F H l vs → intsOf l = some r → vs = r.map V.int
  | [], _, _, h, e => by simp only [Reps] at h; cases e; exact h
  | d :: l, _, r, h, e => by
    simp only [Reps] at h
    obtain ⟨v, us, rfl, h1, h2⟩ := h
    cases d <;> first | (cases e; done) | skip
    simp only [intsOf] at e
    cases z : intsOf l with
    | none => rw [z] at e; cases e
    | some q =>
      rw [z] at e
      cases e
      simp only [Rep] at h1
      rw [h1, ints_rep h2 z]
      rfl
theorem bls_rep : ∀ {l : List D} {vs : List V} {r : List Bool}, Reps K ρ F H l vs → blsOf l = some r → vs = r.map V.bl
  | [], _, _, h, e => by simp only [Reps] at h; cases e; exact h
  | d :: l, _, r, h, e => by
    simp only [Reps] at h
    obtain ⟨v, us, rfl, h1, h2⟩ := h
    cases d <;> first | (cases e; done) | skip
    simp only [blsOf] at e
    cases z : blsOf l with
    | none => rw [z] at e; cases e
    | some q =>
      rw [z] at e
      cases e
      simp only [Rep] at h1
      rw [h1, bls_rep h2 z]
      rfl
end
def rBi (K : PySem.W.Frag) : Bi → List V → Hp → VK → Prop
  | .len => fun xs H Q => (∃ p ys, xs = [.ref p] ∧ (SqL K H p ys ∨ SqT K H p ys) ∧ Q (.int ys.length) H) ∨ ∃ z, xs = [.str z] ∧ z.length ≤ sizeLine ∧ Q (.int z.length) H
  | .tuple => fun xs H Q => ∃ p ys, xs = [.ref p] ∧ ((SqL K H p ys ∧ ∀ l, H l = none → Q (.ref l) (upd H l (.tup ys))) ∨ (SqT K H p ys ∧ Q (.ref p) H))
  | .list => fun xs H Q => ∃ p ys, xs = [.ref p] ∧ (SqL K H p ys ∨ SqT K H p ys) ∧ ∀ l, H l = none → Q (.ref l) (upd H l (.lst ys))
  | .int => fun xs H Q => (∃ i, xs = [.int i] ∧ Q (.int i) H) ∨ ∃ k, xs = [.bl k] ∧ Q (.int (if k then 1 else 0)) H
  | .sum => L2.rSum K
  | .all => L2.rAll K
  | .any => L2.rAny K
/-- what a built-in's name holds -/
def biV : Bi → Value
  | .len => .builtin "len" | .tuple => .type "tuple" | .list => .type "list" | .int => .type "int" | .sum => .builtin "sum" | .all => .builtin "all" | .any => .builtin "any"
theorem biO_of {x : Str} {f : Bi} (h : biO x = some f) : bootBuiltins x = some (biV f) := by
  unfold biO at h
  repeat' (split at h)
  all_goals first | (cases h; done) | skip
  all_goals
    rename_i z
    cases h
    subst z
    decide +kernel
theorem callR_or {X : Cx} {f : Value} {r r' : List V → Hp → VK → Prop} (h : CallR X f r) (h' : CallR X f r') : CallR X f (fun xs H Q => r xs H Q ∨ r' xs H Q) := fun pins s σ H xs us Q I rr q =>
  q.elim (h pins s σ H xs us Q I rr) (h' pins s σ H xs us Q I rr)
theorem pe_blt {X : Cx} {f : Bi} {x : Str} {p : Pos} {t : L2.TA} (hc : X.calm = true) (hg : L2.Gl X x) (hm : X.mg x = none) (hv : bootBuiltins x = some (biV f)) (hn : x ≠ "__name__") (hd : (x == ("__debug__" : Str)) = false) (hs : isStar e = false) (ha : PA X [e] t) :
    PE X (.Call (.Name x p) [e] [] pos) (L2.tCB (rBi X.K f) t) := by
  have st := star_no hs [] X.env
  cases f with
  | len => exact L2.pe_callB (callR_or L2.call_len_seq L2.call_len_str) hg hm hv ha hn hd st rfl
  | tuple => exact L2.pe_callTy L2.call_tuple_of hg hm hv ha hn hd st rfl
  | list => exact L2.pe_callTy L2.call_list_of hg hm hv ha hn hd st rfl
  | int => exact L2.pe_callTy L2.call_int1 hg hm hv ha hn hd st rfl
  | sum => exact L2.pe_callB (L2.cr_sum hc) hg hm hv ha hn hd st rfl
  | all => exact L2.pe_callB (L2.cr_all hc) hg hm hv ha hn hd st rfl
  | any => exact L2.pe_callB (L2.cr_any hc) hg hm hv ha hn hd st rfl
section
variable {K : PySem.W.Frag} {Tb : Addr → Prop} {b : Bx} {σV : L2.St} {ρ ρ' : List Addr} {F F' : Addr → Prop} {H H' : Hp} {s : S} {Q : VK}
theorem bi_ok {f : Bi} {x : D} {v : V} {rv : Rv} (rl : Rl K Tb b σV ρ F H s) (p : RepI K ρ F H x v) (e : biD f x = some rv) (h : WG K Tb b σV ρ F H (RepR K b σV) Q (.ok (rv, s))) : rBi K f [v] H Q := by
  unfold biD at e
  split at e
  · simp only [RepI, Rep] at p
    obtain ⟨a, vs, rfl, h1, h2⟩ := p
    cases e
    exact .inl ⟨a, vs, rfl, .inr h1, h.fin rl (by simp only [RepR, Rep, h2.length])⟩
  · obtain ⟨a, vs, rfl, h1, h2⟩ := p
    cases e
    exact .inl ⟨a, vs, rfl, .inl h1, h.fin rl (by simp only [RepR, Rep, h2.length])⟩
  · simp only [RepI, Rep] at p
    subst p
    split at e
    · cases e
      exact .inr ⟨_, rfl, by assumption, h.fin rl (by simp only [RepR, Rep])⟩
    · cases e
  · simp only [RepI, Rep] at p
    obtain ⟨a, vs, rfl, h1, h2⟩ := p
    cases e
    exact ⟨a, vs, rfl, .inr ⟨h1, h.fin rl (by simp only [RepR, Rep]; exact ⟨a, vs, rfl, h1, h2⟩)⟩⟩
  · simp only [RepI, Rep] at p
    obtain ⟨a, vs, rfl, h1, h2⟩ := p
    cases e
    exact ⟨a, vs, rfl, .inl ⟨h1, fun l hl => h.fin' (same_upd hl) rl (Rep.newT hl h2)⟩⟩
  · simp only [RepI, Rep] at p
    obtain ⟨a, vs, rfl, h1, h2⟩ := p
    cases e
    exact ⟨a, vs, rfl, .inr h1, fun l hl => h.fin' (same_upd hl) rl (RepR.new rl hl h2)⟩
  · simp only [RepI, Rep] at p
    obtain ⟨a, vs, rfl, h1, h2⟩ := p
    cases e
    exact ⟨a, vs, rfl, .inl (h1), fun l hl => h.fin' (same_upd hl) rl (RepR.new rl hl h2)⟩
  · simp only [RepI, Rep] at p
    subst p
    cases e
    exact .inl ⟨_, rfl, h.fin rl (by simp only [RepR, Rep])⟩
  · rename_i l
    simp only [RepI, Rep] at p
    obtain ⟨a, vs, rfl, h1, h2⟩ := p
    cases z : intsOf l with
    | none => rw [z] at e; cases e
    | some r =>
      rw [z] at e
      cases e
      exact ⟨a, r, rfl, by rw [← ints_rep h2 z]; exact h1, h.fin rl (by simp only [RepR, Rep])⟩
  · rename_i l
    simp only [RepI, Rep] at p
    obtain ⟨a, vs, rfl, h1, h2⟩ := p
    cases z : blsOf l with
    | none => rw [z] at e; cases e
    | some r =>
      rw [z] at e
      cases e
      exact ⟨a, r, rfl, by rw [← bls_rep h2 z]; exact h1, h.fin rl (by simp only [RepR, Rep])⟩
  · rename_i l
    simp only [RepI, Rep] at p
    obtain ⟨a, vs, rfl, h1, h2⟩ := p
    cases z : blsOf l with
    | none => rw [z] at e; cases e
    | some r =>
      rw [z] at e
      cases e
      exact ⟨a, r, rfl, by rw [← bls_rep h2 z]; exact h1, h.fin rl (by simp only [RepR, Rep])⟩
  · cases e
end
theorem se_bi {gt : List (Str × Gv)} (gk : GOk g gt) (hc : c.gt = gt) {x : Str} {f : Bi} {p : Pos} (hf : globV c x = some .blt) (hb : biO x = some f) (hs : isStar e = false) (ha : SE g c e i) : SE g c (.Call (.Name x p) [e] [] pos) (.bi f i) := by
  obtain ⟨t, h1, h2⟩ := ha
  obtain ⟨h5, h6, h7⟩ := globV_of hf
  obtain ⟨o1, o2, o3⟩ := okName_of h7
  refine ⟨L2.tCB (rBi g.K f) (L2.tCons t L2.tNil), fun X hX => ?_, fun b σV ρ F H s Q rl h => ?_⟩
  · rw [← hX.K]
    exact pe_blt hX.calm (hX.gl hf) (by rw [hX.mg]; exact gk.blt _ (hc ▸ h6)) (biO_of hb) o3 o1 hs (L2.pa_cons (h1 X hX) L2.pa_nil (star_no hs _ _))
  · simp only [evE] at h
    refine h.step (T := fun Q' => t σV H Q') (fun Q' q => h2 _ _ _ _ _ _ _ rl q) fun x s1 v ρ1 F1 H1 _ e1 r1 p1 q1 => ?_
    obtain ⟨k, e3, q3⟩ := q1.opt
    exact bi_ok r1 (drI r1 p1) e3 q3
/-- list(x), by number -/
theorem se_rlist {gt : List (Str × Gv)} (gk : GOk g gt) (hc : c.gt = gt) {x : Str} {p : Pos} (hf : globV c x = some .blt) (hb : biO x = some .list) (hs : isStar e = false) (ha : SE g c e i) : SE g c (.Call (.Name x p) [e] [] pos) (.rlist i) := by
  obtain ⟨t, h1, h2⟩ := ha
  obtain ⟨h5, h6, h7⟩ := globV_of hf
  obtain ⟨o1, o2, o3⟩ := okName_of h7
  refine ⟨L2.tCB (rBi g.K .list) (L2.tCons t L2.tNil), fun X hX => ?_, fun b σV ρ F H s Q rl h => ?_⟩
  · rw [← hX.K]
    exact pe_blt hX.calm (hX.gl hf) (by rw [hX.mg]; exact gk.blt _ (hc ▸ h6)) (biO_of hb) o3 o1 hs (L2.pa_cons (h1 X hX) L2.pa_nil (star_no hs _ _))
  · simp only [evE] at h
    refine h.step (T := fun Q' => t σV H Q') (fun Q' q => h2 _ _ _ _ _ _ _ rl q) fun x s1 v ρ1 F1 H1 _ e1 r1 p1 q1 => ?_
    split at q1
    · rename_i l z
      rw [z] at p1
      simp only [Rep] at p1
      obtain ⟨a, vs, rfl, h1, h2⟩ := p1
      refine ⟨a, vs, rfl, .inl (h1.sq g.K F1 H1), fun p hp => q1 _ _ _ _ (exE_ref hp) (r1.newRef (l := .l l) (u := .lst vs) hp ⟨vs, rfl, h2⟩) ?_⟩
      simp only [RepR, Rep]
      exact ⟨p, by rw [← r1.ml]; simp, rfl⟩
    · rename_i l z
      rw [z] at p1
      simp only [Rep] at p1
      obtain ⟨a, vs, rfl, h1, h2⟩ := p1
      refine ⟨a, vs, rfl, .inr h1, fun p hp => q1 _ _ _ _ (exE_ref hp) (r1.newRef (l := .l l) (u := .lst vs) hp ⟨vs, rfl, h2⟩) ?_⟩
      simp only [RepR, Rep]
      exact ⟨p, by rw [← r1.ml]; simp, rfl⟩
    · exact q1.elim
end
end Ev


set_option Elab.async false
set_option linter.all false
set_option maxRecDepth 100000
set_option maxHeartbeats 1000000
/-! EvG: what is walked. -/
namespace PySem
set_option maxHeartbeats 1000000 in
/-- enumerate(v), v by how its iterator begins -/
theorem ev_enum_new {v : Value} {o : Obj} {Hh : Heap → Prop} (B : Begins v o Hh) :
    Meets (Builtin.«enumerate.__new__» ⟨[.type "enumerate", v], []⟩) (fun _ R s => Hh s.heap ∧
      R (.ok (.ret (.ref (s.heap.push o).objs.size))) { s with heap := (s.heap.push o).push { cls := .type "enumerate", data := .fields #[.none, .bool false, .ref s.heap.objs.size, rawInt 0, .none, .none] } }) :=
  .of_wp fun prog w A R s h => by
    obtain ⟨hp, g, d, tk, os⟩ := s
    obtain ⟨h1, h⟩ := h
    have hsub := sub_enumerate
    have it : ∀ {A' : Around} {E' : Value → Shared → Prop} {Q' : Value → Shared → Prop}, Q' (.ref hp.objs.size) ⟨hp.push o, g, d, tk, os⟩ → wpAny (model prog w) A' (pyIter v) Q' E' ⟨hp, g, d, tk, os⟩ :=
      fun q => B.iter prog w _ _ ⟨hp, g, d, tk, os⟩ _ h1 q
    wp_walk using it
    refine wpAny_stack_any fun st => wpAny_pure ?_
    split
    · rename_i c _ _ _ _ _
      cases (c == Value.type "enumerate") <;> (wp_walk using it; exact ⟨_, rfl, h⟩)
    · wp_walk using it
      exact ⟨_, rfl, h⟩
theorem ev_enum_call {prog : Program} {w : World} {A : Around} {E : Value → Shared → Prop} {s : Shared} {v : Value} {o : Obj} {Hh : Heap → Prop} {Q : Value → Shared → Prop} (B : Begins v o Hh) (h1 : Hh s.heap)
    (h : ∀ h', IsEnum h' (s.heap.objs.size + 1) s.heap.objs.size 0 .none → h'.get? s.heap.objs.size = some o → h'.objs.size = s.heap.objs.size + 2 → (∀ b o, s.heap.get? b = some o → h'.get? b = some o) → Q (.ref (s.heap.objs.size + 1)) { s with heap := h' }) :
    wpAny (model prog w) A (call (.type "enumerate") [v]) Q E s := by
  refine callType_new F.called_enumerate (by decide) (F.typeCall_enumerate_1 _) (F.newCall_enumerate_1 _) (fun obj => F.args_object_init_2 obj _) F.entry_enumerate_new (ev_enum_new B) ⟨h1, ?_⟩
  have sz : (s.heap.push o).objs.size = s.heap.objs.size + 1 := Heap.size_push ..
  have en : IsEnum ((s.heap.push o).push { cls := .type "enumerate", data := .fields #[.none, .bool false, .ref s.heap.objs.size, rawInt 0, .none, .none] }) (s.heap.objs.size + 1) s.heap.objs.size 0 .none := by
    have q := Heap.get?_push_size (s.heap.push o) (o := { cls := .type "enumerate", data := .fields #[.none, .bool false, .ref s.heap.objs.size, rawInt 0, .none, .none] }) rfl
    rw [sz] at q
    exact q
  show _ ∧ _
  rw [sz]
  exact ⟨⟨_, en, rfl⟩, h _ en (Heap.get?_push_of_some _ (Heap.get?_push_size _ B.free)) (by rw [Heap.size_push, sz]) fun b o x => Heap.get?_push_of_some _ (Heap.get?_push_of_some _ x)⟩
end PySem

namespace L2
open PySem PySem.Spec PyProof.Rows
/-- a tuple's items with their places, in new pairs -/
def ItEt (K : PySem.W.Frag) (a : Addr) : It :=
  ⟨fun i H => ∃ xs x, SqT K H a xs ∧ xs[i]? = some x, fun i H v H' => ∃ T x, v = .ref T ∧ H T = none ∧ H' = upd H T (.tup [.int (i : Nat), x]) ∧ ∀ xs, SqT K H a xs → xs[i]? = some x,
    fun i H => ∃ xs, SqT K H a xs ∧ xs.length = i⟩
theorem ev_turn {P : Program} {w : World} {K : PySem.W.Frag} {elts : List Expr} {kk : Nat} {tpos : Pos} (a e it : Addr) :
    Turn P w K (.Tuple elts kk tpos) (ItEt K a) [e, it] e (fun i h => (∃ old, IsEnum h e it ((i : Nat) : Int) old) ∧ h.IsTupleIter it a i ∧ e ≠ it) where
  mem := List.mem_cons_self
  obj := fun i h ⟨⟨old, he⟩, ⟨o, ho, _, hd⟩, _⟩ b hb => by
    rcases List.mem_cons.mp hb with rfl | hb
    · exact ⟨_, he, fun v q => nomatch q⟩
    · rw [List.mem_singleton.mp hb]
      exact ⟨o, ho, fun v q => by rw [hd] at q; cases q⟩
  keep := fun i h h' ⟨⟨old, he⟩, hi, ne⟩ k => ⟨⟨old, k e List.mem_cons_self _ he⟩, hi.at fun o q => k it (by simp) o q, ne⟩
  item := by
    intro X hP hw hK hc i pins s σ H E I hf st hg
    subst hP hw hK
    obtain ⟨⟨old, he⟩, hit, hne⟩ := st
    obtain ⟨xs, x, hq, hx⟩ := hg
    obtain ⟨its, rv, p, hz⟩ := I.tuple hq
    obtain ⟨u, hu, ru⟩ := rv.get hx
    have hel : e < s.heap.objs.size := Heap.lt_size he
    have hil : it < s.heap.objs.size := let ⟨_, q, _⟩ := hit; Heap.lt_size q
    have nf := hf it (by simp)
    have nta : a ≠ it := fun z => by
      obtain ⟨o1, q1, c1, _⟩ := hit
      obtain ⟨o2, q2, c2, _⟩ := p
      rw [z, q1] at q2
      cases q2
      rw [c1] at c2
      simp at c2
    have nea : e ∉ [it, a] := fun z => by
      rcases List.mem_cons.mp z with z | z
      · exact hne z
      · rw [List.mem_singleton.mp z] at he
        obtain ⟨o2, q2, c2, _⟩ := p
        rw [show s.heap.get? a = some _ from he] at q2
        cases q2
        simp at c2
    have il : i < its.toArray.size := by
      have := (List.getElem?_eq_some_iff.mp hu).1
      simpa using this
    refine wpAny_pyNext_enum_itemD (Draws.tuple (A := X.A.in1) (I.ok.hd hc) it a nta its.toArray) he ⟨hit, p⟩ il hne nea fun y h' tk hy ho st' hT hsz hk => ?_
    have ey : y = u := by
      have : its.toArray[i]? = some u := by simpa using hu
      rw [this] at hy
      exact (Option.some.inj hy).symm
    subst ey
    refine ⟨_, rfl, wpAny_letOwnedTupleGo_enum (s := { s with heap := h', toks := tk + 1 }) ho fun h2 he2 sb => ?_⟩
    have hT2 : h2.get? s.heap.objs.size = some { cls := .type "tuple", data := .seq #[.int i tk, y] } := (sb.2 _ (Nat.ne_of_gt hel)).trans hT
    have new : ObjOk X.prog X.w (upd H s.heap.objs.size (.tup [.int (i : Nat), x])) h2 s.heap.objs.size (.tup [.int (i : Nat), x]) :=
      ⟨by show 2 ≤ sizeLine; decide, [.int i tk, y], .cons ⟨_, rfl⟩ (.cons ru .nil), ⟨_, hT2, rfl, _, rfl⟩⟩
    have I1 : Inv X pins σ (upd H s.heap.objs.size (.tup [.int (i : Nat), x])) { s with heap := h2, toks := tk + 1 } :=
      I.turnedNew (ch := [e, it]) (fun b ob hb q => (sb.2 b (fun z => hb (by simp [z]))).trans (hk b ob (fun z => hb (by simp [z])) (fun z => hb (by simp [z])) q)) hf (Nat.le_refl _) new
    refine ⟨.ref s.heap.objs.size, _, I1, rfl, ⟨_, x, rfl, I.hok.fresh (Nat.le_refl _), rfl, fun ys hy => by rw [I.tuple_inj hy hq]; exact hx⟩, ⟨⟨y, ?_⟩, st'.1.at fun o q => (sb.2 it (Ne.symm hne)).trans q, hne⟩, fun b hb => ?_⟩
    · rw [show ((i + 1 : Nat) : Int) = (i : Int) + 1 by omega]
      exact he2
    · have lt : b < s.heap.objs.size := by
        rcases List.mem_cons.mp hb with rfl | hb
        · exact hel
        · rw [List.mem_singleton.mp hb]; exact hil
      rw [upd_ne (Nat.ne_of_lt lt)]
      exact (hf b hb).1
  done := by
    intro X hP hw hK hc i pins s σ H E I hf st hg
    subst hP hw hK
    obtain ⟨⟨old, he⟩, hit, hne⟩ := st
    obtain ⟨xs, hq, hx⟩ := hg
    obtain ⟨its, rv, p, hz⟩ := I.tuple hq
    have hl := rv.length
    obtain ⟨f0, f1, f2, f3, f4, f5⟩ := hf it (by simp)
    have nta : a ≠ it := fun z => by
      obtain ⟨o1, q1, c1, _⟩ := hit
      obtain ⟨o2, q2, c2, _⟩ := p
      rw [z, q1] at q2
      cases q2
      rw [c1] at c2
      simp at c2
    have ei : i = its.toArray.size := by rw [List.size_toArray, ← hl]; exact hx.symm
    subst ei
    exact wpAny_pyNext_enum_endD (Draws.tuple (A := X.A.in1) (I.ok.hd hc) it a nta its.toArray) he ⟨hit, p⟩ fun h' eb => ⟨rfl, I.turned (t' := s.toks) (fun b o hb q => eb b o hb q) f0 f1 f3 f4 f5⟩
  self := fun A i s Q E ⟨⟨_, he⟩, _⟩ h => wpAny_pyIter_enum he h
end L2

namespace L2
open PySem PySem.Spec PyProof.Rows
def iEnumT (K : PySem.W.Frag) (ta : TA) : TI := fun σ H R => ta σ H fun vs H1 => ∃ a xs, vs = [.ref a] ∧ SqT K H1 a xs ∧ R (ItEt K a) H1
theorem pi_enumT {X : Cx} {e : Expr} {ta : TA} {p pos tpos : Pos} {elts : List Expr} {kk : Nat} (hg : Gl X "enumerate") (hm : X.mg "enumerate" = none) (ha : PA X [e] ta) (hs : starEach [e] X.env = [(false, eval e X.env)]) :
    PI X (.Tuple elts kk tpos) (.Call (.Name "enumerate" p) [e] [] pos) (iEnumT X.K ta) := by
  refine ⟨fun pins s σ H R I h => Call_ (ld_blt I hg hm boot_enumerate (PyProof.Rows.callWith_type1 (thn (ha.run pos pins s σ H _ I h) fun us s1 ⟨vs, H1, I1, r1, a, xs, ex, hq, q⟩ => ?_) hs rfl))⟩
  subst ex
  cases r1 with
  | cons r rr =>
    cases rr
    cases r
    obtain ⟨its, rv, p', hz⟩ := I1.tuple hq
    refine ev_enum_call (begins_tuple a its.toArray) p' fun h' he hit hsz hk => wpAny_pyIter_enum he ?_
    refine ⟨s1.heap.objs.size + 1, [s1.heap.objs.size + 1, s1.heap.objs.size], _, _, H1, rfl, I1.kept (t' := s1.toks) hk, ev_turn a (s1.heap.objs.size + 1) s1.heap.objs.size, ⟨⟨.none, he⟩, ⟨_, hit, rfl, rfl⟩, Nat.succ_ne_self _⟩, fun b hb => ?_, q⟩
    have le : s1.heap.objs.size ≤ b := by
      rcases List.mem_cons.mp hb with rfl | hb
      · exact Nat.le_add_right _ _
      · rw [List.mem_singleton.mp hb]; exact Nat.le_refl _
    exact I1.fpOk le (I1.hok.fresh le)
theorem pi_or {X : Cx} {tg e : Expr} {w1 w2 : TI} (h1 : PI X tg e w1) (h2 : PI X tg e w2) : PI X tg e (fun σ H R => w1 σ H R ∨ w2 σ H R) :=
  ⟨fun pins s σ H R I h => h.elim (h1.run pins s σ H R I) (h2.run pins s σ H R I)⟩
theorem walk_zipT {K : PySem.W.Frag} {a b : Addr} {xs ys : List V} {n : Nat} (hn : n = min xs.length ys.length) : Walk (RZ.ItzT K a b) n (fun H => SqT K H a xs ∧ SqT K H b ys) (YPair (fun i => xs[i]?) (fun i => ys[i]?)) := by
  subst hn
  refine ⟨fun i _ hi q => ?_, fun _ q => ⟨xs, ys, q.1, q.2, by omega⟩, fun i H v H' _ q y => ?_⟩
  · have h1 : i < xs.length := by omega
    have h2 : i < ys.length := by omega
    exact ⟨xs, ys, xs[i], ys[i], q.1, q.2, by simp [h1], by simp [h2]⟩
  · obtain ⟨T, x, z, h1, h2, h3, h4, h5⟩ := y
    exact ⟨T, x, z, h1, h2, h3, h4 xs q.1, h5 ys q.2⟩
theorem walk_enumT {K : PySem.W.Frag} {a : Addr} {xs : List V} : Walk (ItEt K a) xs.length (fun H => SqT K H a xs) (YPair (fun i => some (.int (i : Nat))) (fun i => xs[i]?)) :=
  ⟨fun i _ hi q => ⟨xs, xs[i], q, by simp [hi]⟩, fun _ q => ⟨xs, q, rfl⟩, fun i H v H' _ q ⟨T, x, h1, h2, h3, h4⟩ => ⟨T, .int (i : Nat), x, h1, h2, h3, rfl, h4 xs q⟩⟩
end L2

namespace Ev
open PySem
open L2 (V Hp HO SqL SqT Rd upd upd_same upd_ne Same TE VK PE PT PW PA PI TI It XK Sp FnOk Binds Room CX0 E0 Cx OpR CallR R2)
/-- the iterator J walks the data l -/
structure ItOk (K : PySem.W.Frag) (ρ : List Addr) (F : Addr → Prop) (H : Hp) (J : It) (l : List D) : Prop where
  ex : ∃ (G : Hp → Prop) (Y : Nat → Hp → V → Hp → Prop), L2.Walk J l.length G Y ∧ (∀ ρ' F' H', ExS ρ F H ρ' F' H' → G H') ∧
    ∀ ρ' F' H' (i : Nat) x H2 d, ExS ρ F H ρ' F' H' → Y i H' x H2 → l[i]? = some d → Same H' H2 ∧ Rep K ρ' F' H2 d x
section
variable {K : PySem.W.Frag} {ρ ρ' : List Addr} {F F' : Addr → Prop} {H H' : Hp} {a : Addr} {l : List D} {vs : List V}
theorem same_refl (H : Hp) : Same H H := fun _ _ h => h
theorem itOk_at {J : It} {G : Hp → Prop} (w : L2.Walk J vs.length G (L2.YAt vs)) (hG : ∀ ρ' F' H', ExS ρ F H ρ' F' H' → G H') (r : Reps K ρ F H l vs) : ItOk K ρ F H J l :=
  ⟨G, L2.YAt vs, by rw [← r.length]; exact w, hG, fun ρ' F' H' i x H2 d e ⟨y1, y2⟩ q => by
    subst y1
    obtain ⟨v, h1, h2⟩ := r.get q
    rw [y2] at h1
    cases h1
    exact ⟨same_refl _, Rep.mono e _ _ h2⟩⟩
theorem itOk_list (h : ShL K F H a vs) (r : Reps K ρ F H l vs) : ItOk K ρ F H (L2.Itl K a) l :=
  itOk_at L2.walk_list (fun ρ' F' H' e => (ShL.mono e h).sq K F' H') r
theorem itOk_tup (h : SqT K H a vs) (r : Reps K ρ F H l vs) : ItOk K ρ F H (L2.Itt K a) l :=
  itOk_at L2.walk_tup (fun ρ' F' H' e => SqT.mono e h) r
theorem enmL_get : ∀ {l : List D} {k i : Nat} {d : D}, (enmL k l)[i]? = some d → ∃ x, l[i]? = some x ∧ d = .tup [.int ((k + i : Nat) : Int), x]
  | [], _, _, _, h => by simp [enmL] at h
  | x :: xs, k, 0, d, h => by
    simp only [enmL, List.getElem?_cons_zero, Option.some.injEq] at h
    exact ⟨x, by simp, by rw [← h]; rfl⟩
  | x :: xs, k, i + 1, d, h => by
    simp only [enmL, List.getElem?_cons_succ] at h
    obtain ⟨y, h1, h2⟩ := enmL_get h
    exact ⟨y, by simpa using h1, by rw [h2]; congr 3; omega⟩
theorem enmL_len : ∀ (l : List D) (k : Nat), (enmL k l).length = l.length
  | [], _ => rfl
  | x :: xs, k => by simp only [enmL, List.length_cons, enmL_len xs]
theorem itOk_enum {J : It} {G : Hp → Prop} (w : L2.Walk J vs.length G (L2.YPair (fun i => some (.int (i : Nat))) (fun i => vs[i]?))) (hG : ∀ ρ' F' H', ExS ρ F H ρ' F' H' → G H') (r : Reps K ρ F H l vs) : ItOk K ρ F H J (enmL 0 l) :=
  ⟨G, L2.YPair (fun i => some (.int (i : Nat))) (fun i => vs[i]?), by rw [enmL_len, ← r.length]; exact w, hG, fun ρ' F' H' i x H2 d e ⟨T, y, z, h1, h2, h3, h4, h5⟩ q => by
    subst h1 h3
    obtain ⟨d', k1, rfl⟩ := enmL_get q
    obtain ⟨v, k2, k3⟩ := r.get k1
    replace h5 : vs[i]? = some z := h5
    rw [h5] at k2
    cases k2
    cases h4
    refine ⟨same_upd h2, ?_⟩
    have k4 := Rep.mono e _ _ k3
    refine Rep.newT h2 (Reps.cons ?_ (Reps.one k4))
    simp only [Rep, Nat.zero_add]⟩
theorem zipL_get : ∀ {l m : List D} {i : Nat} {d : D}, (zipL l m)[i]? = some d → ∃ x y, l[i]? = some x ∧ m[i]? = some y ∧ d = .tup [x, y]
  | [], m, i, d, h => by cases m <;> simp [zipL] at h
  | x :: l, [], i, d, h => by simp [zipL] at h
  | x :: l, y :: m, 0, d, h => by
    simp only [zipL, List.getElem?_cons_zero, Option.some.injEq] at h
    exact ⟨x, y, by simp, by simp, h.symm⟩
  | x :: l, y :: m, i + 1, d, h => by
    simp only [zipL, List.getElem?_cons_succ] at h
    simpa using zipL_get h
theorem zipL_len : ∀ (l m : List D), (zipL l m).length = min l.length m.length
  | [], m => by cases m <;> simp [zipL]
  | x :: l, [] => by simp [zipL]
  | x :: l, y :: m => by simp only [zipL, List.length_cons, zipL_len l m]; omega
theorem itOk_zip {J : It} {us : List V} {m : List D} {G : Hp → Prop} (w : L2.Walk J (min vs.length us.length) G (L2.YPair (fun i => vs[i]?) (fun i => us[i]?))) (hG : ∀ ρ' F' H', ExS ρ F H ρ' F' H' → G H') (r : Reps K ρ F H l vs) (r2 : Reps K ρ F H m us) : ItOk K ρ F H J (zipL l m) :=
  ⟨G, L2.YPair (fun i => vs[i]?) (fun i => us[i]?), by rw [zipL_len, ← r.length, ← r2.length]; exact w, hG, fun ρ' F' H' i x H2 d e ⟨T, y, z, h1, h2, h3, h4, h5⟩ q => by
    subst h1 h3
    obtain ⟨d1, d2, k1, k2, rfl⟩ := zipL_get q
    obtain ⟨v1, g1, g2⟩ := r.get k1
    obtain ⟨v2, g3, g4⟩ := r2.get k2
    replace h4 : vs[i]? = some y := h4
    replace h5 : us[i]? = some z := h5
    rw [h4] at g1
    rw [h5] at g3
    cases g1
    cases g3
    refine ⟨same_upd h2, Rep.newT h2 (Reps.cons (Rep.mono e _ _ g2) (Reps.one (Rep.mono e _ _ g4)))⟩⟩
theorem chars_get {x : Str} {i : Nat} {d : D} (h : (chars x)[i]? = some d) : ∃ c, x.cps[i]? = some c ∧ d = .str ⟨#[c]⟩ := by
  unfold chars at h
  rw [List.getElem?_map] at h
  cases e : x.cps.toList[i]? with
  | none => rw [e] at h; cases h
  | some c =>
    rw [e] at h
    rw [Array.getElem?_toList] at e
    exact ⟨c, e, (Option.some.inj h).symm⟩
theorem itOk_str {x : Str} : ItOk K ρ F H (L2.Its x) (chars x) :=
  ⟨fun _ => True, fun i H v H' => H' = H ∧ ∃ c, x.cps[i]? = some c ∧ v = .str ⟨#[c]⟩, by
    have : (chars x).length = x.cps.size := by simp [chars]
    rw [this]; exact L2.walk_str, fun _ _ _ _ => trivial, fun ρ' F' H' i y H2 d e ⟨y1, c, y2, y3⟩ q => by
    subst y1 y3
    refine ⟨same_refl _, ?_⟩
    obtain ⟨c', k1, rfl⟩ := chars_get q
    rw [y2] at k1
    cases k1
    simp only [Rep]⟩
theorem rngD_len : ∀ (n : Nat) (lo c : Int), (rngD lo c n).length = n
  | 0, _, _ => rfl
  | n + 1, lo, c => by simp only [rngD, List.length_cons, rngD_len n]
theorem rngD_get : ∀ {n i : Nat} {lo c : Int} {d : D}, (rngD lo c n)[i]? = some d → d = .int (lo + (i : Nat) * c)
  | 0, _, _, _, _, h => by simp [rngD] at h
  | n + 1, 0, lo, c, d, h => by
    simp only [rngD, List.getElem?_cons_zero, Option.some.injEq] at h
    rw [← h]; simp
  | n + 1, i + 1, lo, c, d, h => by
    simp only [rngD, List.getElem?_cons_succ] at h
    rw [rngD_get h]
    congr 1
    have : ((i + 1 : Nat) : Int) * c = (i : Int) * c + c := by rw [Int.natCast_add, Int.add_mul]; simp
    rw [this]; omega
theorem itOk_rng {lo : Int} {n : Nat} : ItOk K ρ F H (L2.Itr lo n) (rngD lo 1 n) :=
  ⟨fun _ => True, L2.YFn fun i => .int (lo + i), by rw [rngD_len]; exact L2.walk_range, fun _ _ _ _ => trivial, fun ρ' F' H' i x H2 d e ⟨y1, y2⟩ q => by
    subst y1 y2
    refine ⟨same_refl _, ?_⟩
    rw [rngD_get q]
    simp only [Rep, Int.mul_one]⟩
theorem itOk_rngC {lo c : Int} {n : Nat} : ItOk K ρ F H (L2.Itc lo c n) (rngD lo c n) :=
  ⟨fun _ => True, L2.YFn fun i => .int (lo + (i : Nat) * c), by rw [rngD_len]; exact L2.walk_rangeC, fun _ _ _ _ => trivial, fun ρ' F' H' i x H2 d e ⟨y1, y2⟩ q => by
    subst y1 y2
    refine ⟨same_refl _, ?_⟩
    rw [rngD_get q]
    simp only [Rep]⟩
end
/-- what is walked -/
def SI (g : Gd) (c : Cc) (tg it : Expr) (ir : I) : Prop := ∃ w : TI, (∀ X, XOk g c X → PI X tg it w) ∧
  ∀ b σV ρ F H s Q, Rl g.K g.Tb b σV ρ F H s → WG g.K g.Tb b σV ρ F H (fun ρ F H _ l J => ItOk g.K ρ F H J l) Q (evI g.C g.D ir s) → w σV H Q
section
variable {g : Gd} {c : Cc} {pos : Pos} {tg e e2 e3 : Expr} {i i2 i3 : E}
theorem boot_enum : bootBuiltins "enumerate" = some (.type "enumerate") := by decide +kernel
/-- a list or a tuple, a text -/
theorem si_of (ha : SE g c e i) : SI g c tg e (.of i) := by
  obtain ⟨t, h1, h2⟩ := ha
  refine ⟨fun σ H R => (L2.iList g.K t σ H R ∨ L2.iTup g.K t σ H R) ∨ L2.iStr t σ H R, fun X hX => ?_, fun b σV ρ F H s Q rl h => ?_⟩
  · rw [← hX.K]; exact L2.pi_or (L2.pi_or (L2.pi_list (h1 X hX)) (L2.pi_tup (h1 X hX))) (L2.pi_str (h1 X hX))
  · simp only [evI] at h
    cases z : evE g.C g.D i s with
    | exc _ => rw [z] at h; exact h.elim
    | bad => rw [z] at h; exact h.elim
    | ok q =>
      obtain ⟨x, s1⟩ := q
      have hz := h
      rw [z] at hz
      simp only [Res.b2] at hz
      obtain ⟨l, e3, _⟩ := hz.opt
      unfold itD at e3
      split at e3
      · rename_i l' zz
        refine .inl (.inr (h.step (T := fun Q' => t σV H Q') (fun Q' q => h2 _ _ _ _ _ _ _ rl q) fun x' s1' v ρ1 F1 H1 eq e1 r1 p1 q1 => ?_))
        rw [z] at eq
        cases eq
        rw [zz] at p1 q1
        simp only [Rep] at p1
        obtain ⟨a, vs, rfl, k1, k2⟩ := p1
        exact ⟨a, rfl, ⟨vs, k1⟩, WG.fin (a := l') q1 r1 (itOk_tup k1 k2)⟩
      · rename_i l' zz
        refine .inr (h.step (T := fun Q' => t σV H Q') (fun Q' q => h2 _ _ _ _ _ _ _ rl q) fun x' s1' v ρ1 F1 H1 eq e1 r1 p1 q1 => ?_)
        rw [z] at eq
        cases eq
        rw [zz] at p1 q1
        simp only [Rep] at p1
        exact ⟨l', p1, WG.fin (a := chars l') q1 r1 itOk_str⟩
      · rename_i l' zz
        refine .inl (.inl (h.step (T := fun Q' => t σV H Q') (fun Q' q => h2 _ _ _ _ _ _ _ rl q) fun x' s1' v ρ1 F1 H1 eq e1 r1 p1 q1 => ?_))
        rw [z] at eq
        cases eq
        rw [zz] at p1 q1
        simp only [Rep] at p1
        obtain ⟨a, vs, rfl, k1, k2⟩ := p1
        exact ⟨a, rfl, ⟨vs, k1.sq g.K F1 H1⟩, WG.fin (a := l') q1 r1 (itOk_list k1 k2)⟩
      · rename_i l' zz
        refine .inl (.inr (h.step (T := fun Q' => t σV H Q') (fun Q' q => h2 _ _ _ _ _ _ _ rl q) fun x' s1' v ρ1 F1 H1 eq e1 r1 p1 q1 => ?_))
        rw [z] at eq
        cases eq
        rw [zz] at p1 q1
        simp only [Rep] at p1
        obtain ⟨a, vs, o, rfl, k1, _, k2⟩ := p1
        have k3 : SqT g.K H1 a vs := .inl (.inr ⟨o, k1⟩)
        exact ⟨a, rfl, ⟨vs, k3⟩, WG.fin (a := l') q1 r1 (itOk_tup k3 k2)⟩
      · cases e3
/-- zip of two lists, of two tuples -/
theorem si_zip {gt : List (Str × Gv)} (gk : GOk g gt) (hc : c.gt = gt) {f : Str} {p tpos : Pos} {elts : List Expr} {kk : Nat} (hf : isBlt c f "zip" = true) (hs : isStar e = false) (hs2 : isStar e2 = false) (ha : SE g c e i) (hb : SE g c e2 i2) :
    SI g c (.Tuple elts kk tpos) (.Call (.Name f p) [e, e2] [] pos) (.zip i i2) := by
  obtain ⟨t, h1, h2⟩ := ha
  obtain ⟨t', h1', h2'⟩ := hb
  obtain ⟨rfl, h3⟩ := isBlt_of hf
  obtain ⟨h5, h6, h7⟩ := globV_of h3
  refine ⟨RZ.iZipA g.K (L2.tCons t (L2.tCons t' L2.tNil)), fun X hX => ?_, fun b σV ρ F H s Q rl h => ?_⟩
  · rw [← hX.K]
    exact RZ.pi_zipA (hX.gl h3) (by rw [hX.mg]; exact gk.blt _ (hc ▸ h6)) (L2.pa_cons (h1 X hX) (L2.pa_cons (h1' X hX) L2.pa_nil (star_no hs2 _ _)) (star_no hs _ _)) (star_no hs _ _) (by rw [star_no hs2]; rfl)
  · simp only [evI] at h
    refine h.step (T := fun Q' => t σV H Q') (fun Q' q => h2 _ _ _ _ _ _ _ rl q) fun x s1 v ρ1 F1 H1 _ e1 r1 p1 q1 => ?_
    refine q1.step (T := fun Q' => t' σV H1 Q') (fun Q' q => h2' _ _ _ _ _ _ _ r1 q) fun y s2 u ρ2 F2 H2 _ e2 r2 p2 q2 => ?_
    have p1' := Rep.mono (e2.toS r1) _ _ p1
    obtain ⟨l, e3, q3⟩ := q2.opt
    unfold zipD at e3
    split at e3
    · rename_i l1 l2 z1 z2
      cases e3
      rw [z1] at p1'
      rw [z2] at p2
      simp only [Rep] at p1' p2
      obtain ⟨a1, vs, rfl, k1, k2⟩ := p1'
      obtain ⟨a2, us, rfl, k3, k4⟩ := p2
      exact ⟨a1, a2, vs, us, rfl, .inl ⟨k1.sq g.K F2 H2, k3.sq g.K F2 H2, q3.fin r2 (itOk_zip (L2.walk_zip rfl) (fun ρ' F' H' e => ⟨(ShL.mono e k1).sq g.K F' H', (ShL.mono e k3).sq g.K F' H'⟩) k2 k4)⟩⟩
    · rename_i l1 l2 z1 z2
      cases e3
      rw [z1] at p1'
      rw [z2] at p2
      simp only [Rep] at p1' p2
      obtain ⟨a1, vs, rfl, k1, k2⟩ := p1'
      obtain ⟨a2, us, rfl, k3, k4⟩ := p2
      exact ⟨a1, a2, vs, us, rfl, .inr ⟨k1, k3, q3.fin r2 (itOk_zip (L2.walk_zipT rfl) (fun ρ' F' H' e => ⟨SqT.mono e k1, SqT.mono e k3⟩) k2 k4)⟩⟩
    · rename_i l1 l2 z1 z2
      cases e3
      rw [z1] at p1'
      rw [z2] at p2
      simp only [Rep] at p1' p2
      obtain ⟨a1, vs, rfl, k1, k2⟩ := p1'
      obtain ⟨a2, us, o, rfl, k5, _, k4⟩ := p2
      have k3 : SqT g.K H2 a2 us := .inl (.inr ⟨o, k5⟩)
      exact ⟨a1, a2, vs, us, rfl, .inr ⟨k1, k3, q3.fin r2 (itOk_zip (L2.walk_zipT rfl) (fun ρ' F' H' e => ⟨SqT.mono e k1, SqT.mono e k3⟩) k2 k4)⟩⟩
    · cases e3
theorem si_enm {gt : List (Str × Gv)} (gk : GOk g gt) (hc : c.gt = gt) {f : Str} {p tpos : Pos} {elts : List Expr} {kk : Nat} (hf : isBlt c f "enumerate" = true) (hs : isStar e = false) (ha : SE g c e i) :
    SI g c (.Tuple elts kk tpos) (.Call (.Name f p) [e] [] pos) (.enm i) := by
  obtain ⟨t, h1, h2⟩ := ha
  obtain ⟨rfl, h3⟩ := isBlt_of hf
  obtain ⟨h5, h6, h7⟩ := globV_of h3
  have st : ∀ X : Cx, starEach [e] X.env = [(false, eval e X.env)] := fun X => star_no hs [] X.env
  have pa : ∀ X, XOk g c X → PA X [e] (L2.tCons t L2.tNil) := fun X hX => L2.pa_cons (h1 X hX) L2.pa_nil (star_no hs _ _)
  refine ⟨fun σ H R => L2.iEnum g.K (L2.tCons t L2.tNil) σ H R ∨ L2.iEnumT g.K (L2.tCons t L2.tNil) σ H R, fun X hX => ?_, fun b σV ρ F H s Q rl h => ?_⟩
  · rw [← hX.K]
    have hm : X.mg "enumerate" = none := by rw [hX.mg]; exact gk.blt _ (hc ▸ h6)
    exact L2.pi_or (L2.pi_enum (hX.gl h3) hm (pa X hX) (st X)) (L2.pi_enumT (hX.gl h3) hm (pa X hX) (st X))
  · simp only [evI] at h
    cases z : evE g.C g.D i s with
    | exc _ => rw [z] at h; exact h.elim
    | bad => rw [z] at h; exact h.elim
    | ok q =>
      obtain ⟨x, s1⟩ := q
      have hz := h
      rw [z] at hz
      simp only [Res.b2] at hz
      obtain ⟨l, e3, _⟩ := hz.opt
      unfold seD at e3
      split at e3
      · rename_i l' zz
        refine .inr (h.step (T := fun Q' => t σV H Q') (fun Q' q => h2 _ _ _ _ _ _ _ rl q) fun x' s1' v ρ1 F1 H1 eq e1 r1 p1 q1 => ?_)
        rw [z] at eq
        cases eq
        rw [zz] at p1 q1
        simp only [Rep] at p1
        obtain ⟨a, vs, rfl, k1, k2⟩ := p1
        exact ⟨a, vs, rfl, k1, WG.fin (a := enmL 0 l') q1 r1 (itOk_enum L2.walk_enumT (fun ρ' F' H' e => SqT.mono e k1) k2)⟩
      · rename_i l' zz
        refine .inl (h.step (T := fun Q' => t σV H Q') (fun Q' q => h2 _ _ _ _ _ _ _ rl q) fun x' s1' v ρ1 F1 H1 eq e1 r1 p1 q1 => ?_)
        rw [z] at eq
        cases eq
        rw [zz] at p1 q1
        simp only [Rep] at p1
        obtain ⟨a, vs, rfl, k1, k2⟩ := p1
        exact ⟨a, vs, rfl, k1.sq g.K F1 H1, WG.fin (a := enmL 0 l') q1 r1 (itOk_enum L2.walk_enum (fun ρ' F' H' e => (ShL.mono e k1).sq g.K F' H') k2)⟩
      · cases e3

/-! ### ranges -/
theorem small_of {i : Int} (h : smallI i = true) : -(2 ^ 62) ≤ i ∧ i < 2 ^ 62 := by
  unfold smallI at h
  have h := of_decide_eq_true h
  have : i.natAbs < 2 ^ 61 := by
    by_cases z : i.natAbs = 0
    · rw [z]; decide
    · exact (Nat.log2_lt z).mp h
  have e : (2 : Nat) ^ 61 = 2305843009213693952 := by decide
  rw [e] at this
  have e2 : (2 : Int) ^ 62 = 4611686018427387904 := by decide
  rw [e2]
  omega
theorem smallI_of {i : Int} (h : i.natAbs < 1000000) : smallI i = true := by
  unfold smallI
  refine decide_eq_true ?_
  by_cases z : i.natAbs = 0
  · rw [z]; decide
  · exact (Nat.log2_lt z).mpr (Nat.lt_of_lt_of_le h (by decide))
theorem si_rng1 {gt : List (Str × Gv)} (gk : GOk g gt) (hc : c.gt = gt) {f : Str} {p : Pos} (hf : isBlt c f "range" = true) (hs : isStar e = false) (ha : SE g c e i) : SI g c tg (.Call (.Name f p) [e] [] pos) (.rng1 i) := by
  obtain ⟨t, h1, h2⟩ := ha
  obtain ⟨rfl, h3⟩ := isBlt_of hf
  obtain ⟨h5, h6, h7⟩ := globV_of h3
  refine ⟨L2.iRng1 (L2.tCons t L2.tNil), fun X hX => L2.pi_range1 (hX.gl h3) (by rw [hX.mg]; exact gk.blt _ (hc ▸ h6)) (L2.pa_cons (h1 X hX) L2.pa_nil (star_no hs _ _)) (star_no hs [] X.env), fun b σV ρ F H s Q rl h => ?_⟩
  simp only [evI] at h
  refine h.step (T := fun Q' => t σV H Q') (fun Q' q => h2 _ _ _ _ _ _ _ rl q) fun x s1 v ρ1 F1 H1 _ e1 r1 p1 q1 => ?_
  obtain ⟨l, e3, q3⟩ := q1.opt
  unfold rng2D at e3
  split at e3
  · rename_i y z k j e4 e5
    cases e4
    rw [e5] at p1
    simp only [Rep] at p1
    split at e3
    · rename_i hz
      cases e3
      simp only [Bool.and_eq_true] at hz
      obtain ⟨k1, k2⟩ := small_of hz.2
      rw [Int.sub_zero] at q3
      exact ⟨j, by rw [p1], k1, k2, q3.fin r1 itOk_rng⟩
    · cases e3
  · cases e3
theorem si_rng2 {gt : List (Str × Gv)} (gk : GOk g gt) (hc : c.gt = gt) {f : Str} {p : Pos} (hf : isBlt c f "range" = true) (hs : isStar e = false) (hs2 : isStar e2 = false) (ha : SE g c e i) (hb : SE g c e2 i2) :
    SI g c tg (.Call (.Name f p) [e, e2] [] pos) (.rng2 i i2) := by
  obtain ⟨t, h1, h2⟩ := ha
  obtain ⟨t', h1', h2'⟩ := hb
  obtain ⟨rfl, h3⟩ := isBlt_of hf
  obtain ⟨h5, h6, h7⟩ := globV_of h3
  refine ⟨L2.iRng2 (L2.tCons t (L2.tCons t' L2.tNil)), fun X hX => L2.pi_range2 (hX.gl h3) (by rw [hX.mg]; exact gk.blt _ (hc ▸ h6))
    (L2.pa_cons (h1 X hX) (L2.pa_cons (h1' X hX) L2.pa_nil (star_no hs2 _ _)) (star_no hs _ _)) (by rw [star_no hs, star_no hs2]; rfl) (star_no hs2 [] X.env), fun b σV ρ F H s Q rl h => ?_⟩
  simp only [evI] at h
  refine h.step (T := fun Q' => t σV H Q') (fun Q' q => h2 _ _ _ _ _ _ _ rl q) fun x s1 v ρ1 F1 H1 _ e1 r1 p1 q1 => ?_
  refine q1.step (T := fun Q' => t' σV H1 Q') (fun Q' q => h2' _ _ _ _ _ _ _ r1 q) fun y s2 u ρ2 F2 H2 _ e2 r2 p2 q2 => ?_
  obtain ⟨l, e3, q3⟩ := q2.opt
  unfold rng2D at e3
  split at e3
  · rename_i y z k j e4 e5
    rw [e4] at p1
    rw [e5] at p2
    simp only [Rep] at p1 p2
    split at e3
    · rename_i hz
      cases e3
      simp only [Bool.and_eq_true] at hz
      obtain ⟨k1, k2⟩ := small_of hz.1
      obtain ⟨k3, k4⟩ := small_of hz.2
      exact ⟨k, j, by rw [p1, p2], ⟨k1, k2, k3, k4⟩, q3.fin r2 itOk_rng⟩
    · cases e3
  · cases e3
theorem si_rng3 {gt : List (Str × Gv)} (gk : GOk g gt) (hc : c.gt = gt) {f : Str} {p : Pos} (hf : isBlt c f "range" = true) (hs : isStar e = false) (hs2 : isStar e2 = false) (hs3 : isStar e3 = false) (ha : SE g c e i) (hb : SE g c e2 i2) (hd : SE g c e3 i3) :
    SI g c tg (.Call (.Name f p) [e, e2, e3] [] pos) (.rng3 i i2 i3) := by
  obtain ⟨t, h1, h2⟩ := ha
  obtain ⟨t', h1', h2'⟩ := hb
  obtain ⟨t2, h1'', h2''⟩ := hd
  obtain ⟨rfl, h3⟩ := isBlt_of hf
  obtain ⟨h5, h6, h7⟩ := globV_of h3
  refine ⟨L2.iRng3 (L2.tCons t (L2.tCons t' (L2.tCons t2 L2.tNil))), fun X hX => L2.pi_range3 (hX.gl h3) (by rw [hX.mg]; exact gk.blt _ (hc ▸ h6))
    (L2.pa_cons (h1 X hX) (L2.pa_cons (h1' X hX) (L2.pa_cons (h1'' X hX) L2.pa_nil (star_no hs3 _ _)) (star_no hs2 _ _)) (star_no hs _ _)) (star_no hs _ _) (noStars (by simp [hs2, hs3]) _ _), fun b σV ρ F H s Q rl h => ?_⟩
  simp only [evI] at h
  refine h.step (T := fun Q' => t σV H Q') (fun Q' q => h2 _ _ _ _ _ _ _ rl q) fun x s1 v ρ1 F1 H1 _ e1 r1 p1 q1 => ?_
  refine q1.step (T := fun Q' => t' σV H1 Q') (fun Q' q => h2' _ _ _ _ _ _ _ r1 q) fun y s2 u ρ2 F2 H2 _ e2 r2 p2 q2 => ?_
  refine q2.step (T := fun Q' => t2 σV H2 Q') (fun Q' q => h2'' _ _ _ _ _ _ _ r2 q) fun y s3 u3 ρ3 F3 H3 _ e3 r3 p3 q3 => ?_
  obtain ⟨l, e5, q5⟩ := q3.opt
  unfold rng3D at e5
  split at e5
  · rename_i y z k i j m e4 e6 e7
    rw [e4] at p1
    rw [e6] at p2
    rw [e7] at p3
    simp only [Rep] at p1 p2 p3
    split at e5
    · rename_i hz
      cases e5
      exact ⟨i, j, m, _, by rw [p1, p2, p3], ⟨hz.1, hz.2.1, hz.2.2.1, by have := hz.2.2.2; omega⟩, q5.fin r3 itOk_rngC⟩
    · cases e5
  · cases e5
end
end Ev


set_option Elab.async false
set_option linter.all false
set_option maxRecDepth 100000
set_option maxHeartbeats 1000000
/-! EvH: targets, comprehensions. -/
namespace Ev
open PySem
open L2 (V Hp HO SqL SqT Rd upd upd_same upd_ne Same TE VK PE PT PW PA PI PG PGs TG TGs TI It XK Sp FnOk Binds Room CX0 E0 Cx OpR CallR R2)
/-- one object more is not to be touched -/
def Bx.and (b : Bx) (p : Addr) : Bx := { b with Pr := fun a => b.Pr a ∨ a = p }
section
variable {K : PySem.W.Frag} {Tb : Addr → Prop} {b : Bx} {σV σV' : L2.St} {ρ ρ' : List Addr} {F F' : Addr → Prop} {H H' : Hp} {s : S} {p : Addr} {o : HO}
theorem exS_upd (nf : ¬ F p) (ch : ∀ u, H p = some u → Chg u) : ExS ρ F H ρ F (upd H p o) where
  pre := fun _ _ h => h
  fz := fun _ h => h
  keep := fun a u h k => by
    rw [upd_ne]
    · exact h
    · rintro rfl
      rcases k with k | k
      · exact nf k
      · exact k (ch u h)
theorem Rl.updP (r : Rl K Tb b σV ρ F H s) (hp : b.Pr p) (hn : b.H p = none) (ch : ∀ u, H p = some u → Chg u) (nt : ¬ IsTb o) : Rl K Tb b σV ρ F (upd H p o) s := by
  have nf := (r.pt p hp).1
  have x : ExS ρ F H ρ F (upd H p o) := exS_upd nf ch
  have nr : ∀ a, a ∈ ρ → a ≠ p := fun a m z => (r.rf a m).2 (z ▸ hp)
  refine ⟨r.len, fun i d e => ?_, fun i l e => ?_, r.apart, fun n l e => ?_, r.ml, r.nd, r.rf, r.rn, fun a f => ?_, r.fn, fun a u q n t => ?_, fun a u q t => ?_, fun a q => ⟨(r.pt a q).1, ?_⟩, r.bp, fun P q => ?_⟩
  · obtain ⟨v, q, t⟩ := r.val i d e
    exact ⟨v, q, Rep.mono x _ _ t⟩
  · obtain ⟨a, vs, q, w⟩ := r.own i l e
    have ne : a ≠ p := fun z => w.np (z ▸ hp)
    exact ⟨a, vs, q, w.mono x (by rw [upd_ne ne]; exact w.at_) w.nf w.nr⟩
  · obtain ⟨a, vs, q, t, w⟩ := r.mem n l e
    exact ⟨a, vs, q, by rw [upd_ne (nr a (List.mem_of_getElem? q))]; exact t, w.mono x⟩
  · obtain ⟨u, q, t⟩ := r.ft a f
    have ne : a ≠ p := fun z => nf (z ▸ f)
    exact ⟨u, by rw [upd_ne ne]; exact q, t⟩
  · rw [upd_ne (fun z => by rw [z, hn] at q; cases q)]
    exact r.old a u q n t
  · rw [upd_ne (fun z => by rw [z, hn] at q; cases q)]
    exact r.oldT a u q t
  · by_cases z : a = p
    · exact ⟨o, by rw [z, upd_same], nt⟩
    · obtain ⟨u, w, t⟩ := (r.pt a q).2
      exact ⟨u, by rw [upd_ne z]; exact w, t⟩
  · obtain ⟨ps, e, t⟩ := r.tab P q
    obtain ⟨u, w, t2⟩ := (r.pt p hp).2
    have ne : P ≠ p := fun z => by rw [← z, e] at w; cases w; exact t2 trivial
    exact ⟨ps, by rw [upd_ne ne]; exact e, t⟩
theorem Rl.guard (r : Rl K Tb b σV ρ F H s) (hp : H p = none) (nt : ¬ IsTb o) : Rl K Tb (b.and p) σV ρ F (upd H p o) s := by
  obtain ⟨h1, h2, h3, h4, h5⟩ := r.free hp
  have r1 := r.same (same_upd (o := o) hp)
  refine ⟨r1.len, r1.val, fun i l e => ?_, r1.apart, r1.mem, r1.ml, r1.nd, fun a m => ⟨(r1.rf a m).1, fun z => ?_⟩, r1.rn, r1.ft, r1.fn, r1.old, r1.oldT, fun a q => ?_, r1.bp, r1.tab⟩
  · obtain ⟨a, vs, q, w⟩ := r1.own i l e
    refine ⟨a, vs, q, ⟨w.at_, w.reps, w.nf, w.nr, w.new, fun z => ?_⟩⟩
    rcases z with z | z
    · exact w.np z
    · rw [z] at q; exact h5 i l e q
  · rcases z with z | z
    · exact (r1.rf a m).2 z
    · rw [z] at m; exact h2 m
  · rcases q with z | z
    · exact r1.pt a z
    · rw [z]; exact ⟨h1, o, upd_same, nt⟩
theorem Rl.unguard (r : Rl K Tb (b.and p) σV ρ F H s) : Rl K Tb b σV ρ F H s :=
  ⟨r.len, r.val, fun i l e => let ⟨a, vs, q, w⟩ := r.own i l e; ⟨a, vs, q, ⟨w.at_, w.reps, w.nf, w.nr, w.new, fun z => w.np (.inl z)⟩⟩, r.apart, r.mem, r.ml, r.nd,
    fun a m => ⟨(r.rf a m).1, fun z => (r.rf a m).2 (.inl z)⟩, r.rn, r.ft, r.fn, r.old, r.oldT, fun a q => r.pt a (.inl q), r.bp, r.tab⟩
/-- what is guarded is no one's -/
theorem Rl.guarded (r : Rl K Tb (b.and p) σV ρ F H s) : ¬ F p ∧ p ∉ ρ ∧ ∀ (i : Nat) l', s.σ[i]? = some (.mls l') → σV[i]? ≠ some (some (.ref p)) := by
  refine ⟨(r.pt p (.inr rfl)).1, fun m => (r.rf p m).2 (.inr rfl), fun i l' e q => ?_⟩
  obtain ⟨a, vs, e1, w⟩ := r.own i l' e
  rw [e1] at q
  cases q
  exact w.np (.inr rfl)
theorem ExE.updNew (x : ExE ρ F H ρ' F' H') (hp : H p = none) : ExE ρ F H ρ' F' (upd H' p o) :=
  ⟨x.pre, x.fz, fun a u h n t => by rw [upd_ne (L2.ne_of_none h hp)]; exact x.all a u h n t, fun a u h t => by rw [upd_ne (L2.ne_of_none h hp)]; exact x.tbl a u h t, x.rn⟩

/-! ### slots forgotten and put back -/
theorem wipe_in {i : Nat} : ∀ {σ : L2.St} {vs : List Nat}, i ∈ vs → i < σ.length → (L2.wipe σ vs)[i]? = some none
  | σ, v :: vs, m, h => by
    unfold L2.wipe
    by_cases e : v = i
    · rw [e, List.getElem?_set_self (by rw [L2.wipe_length]; exact h)]
    · rw [List.getElem?_set_ne e]
      exact wipe_in ((List.mem_cons.mp m).resolve_left fun z => e z.symm) h
theorem wipe_ext {σ τ : L2.St} {vs : List Nat} (hl : σ.length = τ.length) (h : ∀ i, i ∉ vs → σ[i]? = τ[i]?) : L2.wipe σ vs = L2.wipe τ vs := by
  apply List.ext_getElem?
  intro i
  by_cases m : i ∈ vs
  · by_cases k : i < σ.length
    · rw [wipe_in m k, wipe_in m (hl ▸ k)]
    · rw [List.getElem?_eq_none (by rw [L2.wipe_length]; omega), List.getElem?_eq_none (by rw [L2.wipe_length]; omega)]
  · rw [L2.wipe_out m, L2.wipe_out m]
    exact h i m
theorem wipe_twice (σ : L2.St) (vs : List Nat) : L2.wipe (L2.wipe σ vs) vs = L2.wipe σ vs :=
  wipe_ext (L2.wipe_length _ _) fun i m => L2.wipe_out m
theorem wipeR_len (σ : List Rv) : ∀ vs, (wipeR σ vs).length = σ.length
  | [] => rfl
  | v :: vs => by simp only [wipeR, List.length_set, wipeR_len σ vs]
theorem wipeR_some {σ : List Rv} {i : Nat} {x : Rv} : ∀ {vs : List Nat}, (wipeR σ vs)[i]? = some x → x = .un ∨ (σ[i]? = some x ∧ i ∉ vs)
  | [], h => .inr ⟨h, by simp⟩
  | v :: vs, h => by
    simp only [wipeR] at h
    rcases get_set h with ⟨_, q⟩ | ⟨ne, q⟩
    · exact .inl q
    · rcases wipeR_some q with z | ⟨z, m⟩
      · exact .inl z
      · exact .inr ⟨z, fun w => (List.mem_cons.mp w).elim (fun e => ne e.symm) m⟩
theorem Rl.wipe (r : Rl K Tb b σV ρ F H s) (vs : List Nat) : Rl K Tb b (L2.wipe σV vs) ρ F H { s with σ := wipeR s.σ vs } where
  len := by rw [L2.wipe_length, ← r.len]; exact wipeR_len _ _
  val := fun i d e => by
    rcases wipeR_some e with z | ⟨z, m⟩
    · cases z
    · obtain ⟨v, q, t⟩ := r.val i d z
      exact ⟨v, by rw [L2.wipe_out m]; exact q, t⟩
  own := fun i l e => by
    rcases wipeR_some e with z | ⟨z, m⟩
    · cases z
    · obtain ⟨a, us, q, t⟩ := r.own i l z
      exact ⟨a, us, by rw [L2.wipe_out m]; exact q, t⟩
  apart := fun i j l l' a e1 e2 e3 e4 => by
    rcases wipeR_some e1 with z | ⟨z, m⟩
    · cases z
    · rcases wipeR_some e2 with z2 | ⟨z2, m2⟩
      · cases z2
      · rw [L2.wipe_out m] at e3
        rw [L2.wipe_out m2] at e4
        exact r.apart i j l l' a z z2 e3 e4
  mem := r.mem
  ml := r.ml
  nd := r.nd
  rf := r.rf
  rn := r.rn
  ft := r.ft
  fn := r.fn
  old := r.old
  oldT := r.oldT
  pt := r.pt
  bp := r.bp
  tab := r.tab
theorem backR_len (σ0 σ : List Rv) : ∀ vs, (backR σ0 σ vs).length = σ.length
  | [] => rfl
  | v :: vs => by simp only [backR, List.length_set, backR_len σ0 σ vs]
theorem backR_some {σ0 σ : List Rv} {i : Nat} {x : Rv} : ∀ {vs : List Nat}, (backR σ0 σ vs)[i]? = some x → (i ∈ vs ∧ x = σ0.getD i .un) ∨ (σ[i]? = some x ∧ i ∉ vs)
  | [], h => .inr ⟨h, by simp⟩
  | v :: vs, h => by
    simp only [backR] at h
    rcases get_set h with ⟨e, q⟩ | ⟨ne, q⟩
    · exact .inl ⟨by rw [e]; exact List.mem_cons_self, by rw [q, e]⟩
    · rcases backR_some q with ⟨m, z⟩ | ⟨z, m⟩
      · exact .inl ⟨List.mem_cons_of_mem _ m, z⟩
      · exact .inr ⟨z, fun w => (List.mem_cons.mp w).elim (fun e => ne e.symm) m⟩
/-- the names of a comprehension's own are as they were -/
theorem Rl.back {s0 : S} {ρ0 : List Addr} {F0 : Addr → Prop} {H0 : Hp} {vs : List Nat} (r : Rl K Tb b (L2.wipe σV vs) ρ F H s) (r0 : Rl K Tb b σV ρ0 F0 H0 s0) (x : ExS ρ0 F0 H0 ρ F H) (no : noOwn s0.σ vs = true) : Rl K Tb b σV ρ F H { s with σ := backR s0.σ s.σ vs } := by
  have r1 : Rl K Tb b σV ρ F H { s with σ := wipeR s.σ vs } := by
    refine ⟨by rw [wipeR_len, r.len, L2.wipe_length], fun i d e => ?_, fun i l e => ?_, fun i j l l' a e1 e2 e3 e4 => ?_, r.mem, r.ml, r.nd, r.rf, r.rn, r.ft, r.fn, r.old, r.oldT, r.pt, r.bp, r.tab⟩
    · rcases wipeR_some e with z | ⟨z, m⟩
      · cases z
      · obtain ⟨v, q, t⟩ := r.val i d z
        rw [L2.wipe_out m] at q
        exact ⟨v, q, t⟩
    · rcases wipeR_some e with z | ⟨z, m⟩
      · cases z
      · obtain ⟨v, us, q, t⟩ := r.own i l z
        rw [L2.wipe_out m] at q
        exact ⟨v, us, q, t⟩
    · rcases wipeR_some e1 with z | ⟨z, m⟩
      · cases z
      · rcases wipeR_some e2 with z2 | ⟨z2, m2⟩
        · cases z2
        · exact r.apart i j l l' a z z2 (by rw [L2.wipe_out m]; exact e3) (by rw [L2.wipe_out m2]; exact e4)
  refine r1.slots (by rw [backR_len]; exact (wipeR_len _ _).symm) fun i y e => ?_
  rcases backR_some e with ⟨m, z⟩ | ⟨z, m⟩
  · have hi : i < s.σ.length := by
      have := (List.getElem?_eq_some_iff.mp e).1
      rw [backR_len] at this
      exact this
    have hi0 : i < s0.σ.length := by rw [r0.len]; rw [r.len, L2.wipe_length] at hi; exact hi
    have e0 : s0.σ[i]? = some y := by rw [z, List.getD_eq_getElem?_getD, List.getElem?_eq_getElem hi0]; rfl
    cases y with
    | un => exact .inl rfl
    | mls l =>
      unfold noOwn at no
      rw [List.all_eq_true] at no
      have := no i m
      rw [← z] at this
      cases this
    | val d =>
      obtain ⟨v, q, t⟩ := r0.val i d e0
      exact .inr (.inr ⟨d, v, rfl, q, Rep.mono x _ _ t⟩)
  · refine .inr (.inl ?_)
    have : ∀ {vs : List Nat}, i ∉ vs → (wipeR s.σ vs)[i]? = s.σ[i]? := fun {vs} => by
      induction vs with
      | nil => intro _; rfl
      | cons v vs ih =>
        intro m
        simp only [wipeR]
        rw [List.getElem?_set_ne (fun e => m (by rw [e]; exact List.mem_cons_self))]
        exact ih fun w => m (List.mem_cons_of_mem _ w)
    show (wipeR s.σ vs)[i]? = some y
    rw [this m]
    exact z
end

/-! ### targets -/
def STg (g : Gd) (c : Cc) (e : Expr) (tg : Tg) : Prop := ∃ t : TG, (∀ X, XOk g c X → PG X e t) ∧
  ∀ b σV ρ F H s d v σ' Q, Rl g.K g.Tb b σV ρ F H s → Rep g.K ρ F H d v → asgT tg (.val d) s.σ = some σ' →
    (∀ σV', Rl g.K g.Tb b σV' ρ F H { s with σ := σ' } → (∀ i, i ∉ slots tg → σV'[i]? = σV[i]?) → σV'.length = σV.length → Q σV' H) → t v σV H Q
def STgs (g : Gd) (c : Cc) (es : List Expr) (ts : Tgs) : Prop := ∃ t : TGs, (∀ X, XOk g c X → PGs X es t) ∧
  ∀ b σV ρ F H s ds vs σ' Q, Rl g.K g.Tb b σV ρ F H s → Reps g.K ρ F H ds vs → asgTs ts ds s.σ = some σ' →
    (∀ σV', Rl g.K g.Tb b σV' ρ F H { s with σ := σ' } → (∀ i, i ∉ slotss ts → σV'[i]? = σV[i]?) → σV'.length = σV.length → Q σV' H) → t vs σV H Q
section
variable {g : Gd} {c : Cc} {pos : Pos} {tg e e2 e3 : Expr} {i i2 i3 : E}
theorem asg_no (h : isStar e = false) (es : List Expr) (env : Env) : assignEach (e :: es) env = (false, assign e env) :: assignEach es env := by
  cases e <;> first | rfl | cases h
theorem asg_len : ∀ {es : List Expr}, es.all (fun e => !isStar e) = true → ∀ env, (assignEach es env).length = es.length ∧ (assignEach es env).findIdx? (·.1) = none
  | [], _, _ => ⟨rfl, rfl⟩
  | e :: es, h, env => by
    simp only [List.all_cons, Bool.and_eq_true, Bool.not_eq_true'] at h
    obtain ⟨h1, h2⟩ := asg_len h.2 env
    rw [asg_no h.1]
    refine ⟨by simp only [List.length_cons, h1], ?_⟩
    rw [List.findIdx?_cons, h2]
    rfl
theorem stg_nm {x : Str} {n : Nat} (h : slotW c x = some n) : STg g c (.Name x pos) (.nm n) := by
  obtain ⟨h1, h2, h3, h4⟩ := slotW_of h
  refine ⟨L2.gName n, fun X hX => L2.pg_name (by rw [hX.N]; exact hX.nd) (by rw [hX.N]; exact h1) (by rw [hX.sc]; exact h2) (h4.imp (hX.fn x) (fun q => by rw [hX.sc]; exact q)), fun b σV ρ F H s d v σ' Q rl p e k => ?_⟩
  simp only [asgT] at e
  split at e
  · rename_i hi
    cases e
    exact k _ (rl.put (rv := .val d) p hi) (fun i m => List.getElem?_set_ne fun z => m (by simp [slots, z])) (by simp)
  · cases e
theorem stgs_nil : STgs g c [] .nil := ⟨L2.gNil, fun _ _ => L2.pgs_nil, fun b σV ρ F H s ds vs σ' Q rl p e k => by
  cases ds with
  | nil =>
    simp only [asgTs] at e
    cases e
    simp only [Reps] at p
    exact ⟨p, k σV rl (fun _ _ => rfl) rfl⟩
  | cons d ds => simp only [asgTs] at e; cases e⟩
theorem stgs_cons {es : List Expr} {t : Tg} {ts : Tgs} (hs : isStar e = false) (ha : STg g c e t) (hb : STgs g c es ts) : STgs g c (e :: es) (.cons t ts) := by
  obtain ⟨t1, h1, h2⟩ := ha
  obtain ⟨t2, h3, h4⟩ := hb
  refine ⟨L2.gCons t1 t2, fun X hX => L2.pgs_cons (h1 X hX) (h3 X hX) (by rw [asg_no hs]; rfl), fun b σV ρ F H s ds vs σ' Q rl p e k => ?_⟩
  cases ds with
  | nil => simp only [asgTs] at e; cases e
  | cons d ds =>
    simp only [asgTs] at e
    simp only [Reps] at p
    obtain ⟨v, r, rfl, p1, p2⟩ := p
    cases z : asgT t (.val d) s.σ with
    | none => rw [z] at e; cases e
    | some σ1 =>
      rw [z] at e
      refine ⟨v, r, rfl, h2 b σV ρ F H s d v σ1 _ rl p1 z fun σV1 rl1 o1 l1 => ?_⟩
      refine h4 b σV1 ρ F H { s with σ := σ1 } ds r σ' _ rl1 p2 e fun σV2 rl2 o2 l2 => ?_
      exact k σV2 rl2 (fun i m => by
        simp only [slotss, List.mem_append, not_or] at m
        rw [o2 i m.2, o1 i m.1]) (l2.trans l1)
def lenTgs : Tgs → Nat
  | .nil => 0
  | .cons _ ts => lenTgs ts + 1
theorem asgTs_ln : ∀ {ts : Tgs} {ds : List D} {σ σ' : List Rv}, asgTs ts ds σ = some σ' → ds.length = lenTgs ts
  | .nil, [], _, _, _ => rfl
  | .nil, _ :: _, _, _, h => by simp only [asgTs] at h; cases h
  | .cons _ _, [], _, _, h => by simp only [asgTs] at h; cases h
  | .cons t ts, d :: ds, σ, σ', h => by
    simp only [asgTs] at h
    cases z : asgT t (.val d) σ with
    | none => rw [z] at h; cases h
    | some σ1 =>
      rw [z] at h
      have := asgTs_ln (show asgTs ts ds σ1 = some σ' from h)
      simp only [List.length_cons, lenTgs, this]
theorem stg_tp {es : List Expr} {ts : Tgs} {k : Nat} (hs : es.all (fun e => !isStar e) = true) (hl : es.length = lenTgs ts) (ha : STgs g c es ts) : STg g c (.Tuple es k pos) (.tp ts) := by
  obtain ⟨t, h1, h2⟩ := ha
  refine ⟨L2.gTup g.K es.length t, fun X hX => ?_, fun b σV ρ F H s d v σ' Q rl p e k => ?_⟩
  · rw [← hX.K]
    exact L2.pg_tup hX.calm (h1 X hX) (asg_len hs X.env).1 (asg_len hs X.env).2
  · cases d <;> first | (simp only [asgT] at e; cases e; done) | skip
    · simp only [asgT] at e
      simp only [Rep] at p
      obtain ⟨a, vs, rfl, k1, k2⟩ := p
      exact ⟨a, vs, rfl, k1, by rw [k2.length, hl]; exact asgTs_ln e, h2 b σV ρ F H s _ vs σ' Q rl k2 e fun σV' r o l => k σV' r (fun i m => o i (by simpa only [slots] using m)) l⟩
    · simp only [asgT] at e
      simp only [Rep] at p
      obtain ⟨a, vs, o0, rfl, k0, _, k2⟩ := p
      exact ⟨a, vs, rfl, .inl (.inr ⟨o0, k0⟩), by rw [k2.length, hl]; exact asgTs_ln e, h2 b σV ρ F H s _ vs σ' Q rl k2 e fun σV' r o l => k σV' r (fun i m => o i (by simpa only [slots] using m)) l⟩
end
/-- a result that is there, by what is wanted of it -/
theorem WG.of {α β : Type} {K : PySem.W.Frag} {Tb : Addr → Prop} {b : Bx} {σV : L2.St} {ρ : List Addr} {F : Addr → Prop} {H : Hp} {R : List Addr → (Addr → Prop) → Hp → S → α → β → Prop} {Q : β → Hp → Prop} {r : Res (α × S)} {a : α} {s : S}
    (e : r = .ok (a, s)) (h : ∀ v ρ' F' H', ExE ρ F H ρ' F' H' → Rl K Tb b σV ρ' F' H' s → R ρ' F' H' s a v → Q v H') : WG K Tb b σV ρ F H R Q r := by
  rw [e]; exact h
theorem b2_assoc {α β γ : Type} {r : Res (α × S)} {f : α → S → Res (β × S)} {k : β → S → Res γ} : (r.b2 f).b2 k = r.b2 fun a s => (f a s).b2 k := by
  cases r <;> rfl
theorem b2_ok {α β : Type} {K : PySem.W.Frag} {Tb : Addr → Prop} {b : Bx} {σV : L2.St} {ρ : List Addr} {F : Addr → Prop} {H : Hp} {γ : Type} {R : List Addr → (Addr → Prop) → Hp → S → β → γ → Prop} {Q : γ → Hp → Prop} {r : Res (α × S)} {f : α → S → Res (β × S)}
    (h : WG K Tb b σV ρ F H R Q (r.b2 f)) : ∃ a s, r = .ok (a, s) ∧ WG K Tb b σV ρ F H R Q (f a s) := by
  cases r with
  | ok p => obtain ⟨a, s⟩ := p; exact ⟨a, s, rfl, h⟩
  | exc _ => exact h.elim
  | bad => exact h.elim

/-! ### comprehensions -/
theorem XOk.inner {g : Gd} {c : Cc} {X : Cx} (h : XOk g c X) (s : Shared) (H : Hp) (scope : Scope) (C : Addr) (cl : List (Str × Addr)) (fp : List Addr) : XOk g (inner c scope) (X.blk s H scope (compEnvC scope cl C X.env) fp) where
  P := h.P
  w := h.w
  K := h.K
  mg := h.mg
  base := h.base
  N := h.N
  nd := h.nd
  sc := by
    show L2.relS scope X.env.scope = L2.relS scope c.sc
    rw [h.sc]
  fn := fun _ q => q
  calm := h.calm
  room := h.room
  code := h.code
def STs (g : Gd) (c : Cc) (es : List Expr) (ir : B) : Prop := ∃ t : L2.TT, (∀ X, XOk g c X → L2.PTs X es t) ∧
  ∀ b σV ρ F H s Q, Rl g.K g.Tb b σV ρ F H s → WG g.K g.Tb b σV ρ F H (fun _ _ _ _ k k' => k' = k) Q (evB g.C g.D ir s) → t σV H Q
theorem sts_nil {g : Gd} {c : Cc} : STs g c [] .yes := ⟨_, fun _ _ => L2.pts_nil, fun b σV ρ F H s Q rl h => by
  simp only [evB] at h
  exact h.fin rl rfl⟩
theorem sts_one {g : Gd} {c : Cc} {e : Expr} {b : B} (h : SB g c e b) : STs g c [e] b := let ⟨t, h1, h2⟩ := h; ⟨t, fun X hX => L2.pts_one (h1 X hX), h2⟩
theorem set_iter {e : Expr} (h : isSet e = false) (env : Env) (x : Value) : foldedSetIterable e env x = pure x := by
  cases e <;> first | rfl | cases h

theorem backR_in {σ0 σ : List Rv} {i : Nat} : ∀ {us : List Nat}, i ∈ us → i < σ.length → (backR σ0 σ us)[i]? = some (σ0.getD i .un)
  | v :: us, m, h => by
    simp only [backR]
    by_cases e : v = i
    · rw [e, List.getElem?_set_self (by rw [backR_len]; exact h)]
    · rw [List.getElem?_set_ne e]
      exact backR_in ((List.mem_cons.mp m).resolve_left fun z => e z.symm) h
theorem backR_out {σ0 σ : List Rv} {i : Nat} : ∀ {us : List Nat}, i ∉ us → (backR σ0 σ us)[i]? = σ[i]?
  | [], _ => rfl
  | v :: us, m => by
    simp only [backR]
    rw [List.getElem?_set_ne (fun e => m (by rw [e]; exact List.mem_cons_self))]
    exact backR_out fun w => m (List.mem_cons_of_mem _ w)
theorem wipeR_out {σ : List Rv} {i : Nat} : ∀ {us : List Nat}, i ∉ us → (wipeR σ us)[i]? = σ[i]?
  | [], _ => rfl
  | v :: us, m => by
    simp only [wipeR]
    rw [List.getElem?_set_ne (fun e => m (by rw [e]; exact List.mem_cons_self))]
    exact wipeR_out fun w => m (List.mem_cons_of_mem _ w)
theorem backR_wipe (σ0 σ : List Rv) (us : List Nat) : backR σ0 (wipeR σ us) us = backR σ0 σ us := by
  apply List.ext_getElem?
  intro i
  by_cases m : i ∈ us
  · by_cases k : i < σ.length
    · rw [backR_in m (by rw [wipeR_len]; exact k), backR_in m k]
    · rw [List.getElem?_eq_none (by rw [backR_len, wipeR_len]; omega), List.getElem?_eq_none (by rw [backR_len]; omega)]
  · rw [backR_out m, backR_out m, wipeR_out m]
/-- one turn of a comprehension -/
def lcStep (C : Calls) (D' : Nat → D) (vs : List Nat) (tg : Tg) (cn : B) (el : E) (x : D) (s : S) : Res (Option D × S) :=
  (opt (asgT tg (.val x) (wipeR s.σ vs))).bind fun σ => (evB C D' cn { s with σ := σ }).b2 fun k s =>
    if k = true then (evE C D' el s).b2 fun y s => .ok (some y.fz, { s with σ := wipeR s.σ vs }) else .ok (none, { s with σ := wipeR s.σ vs })
/-- what holds ahead of turn n: what is made stands at p -/
structure LcP (K : PySem.W.Frag) (Tb : Addr → Prop) (b : Bx) (σV : L2.St) (ρ1 : List Addr) (F1 : Addr → Prop) (H1 : Hp) (p : Addr) (vs : List Nat) (W : List D → S → Prop) (n : Nat) (H : Hp) : Prop where
  ex : ∃ (acc : List D) (accV : List V) (ρ : List Addr) (F : Addr → Prop) (s : S), ExE ρ1 F1 H1 ρ F H ∧ Rl K Tb (b.and p) (L2.wipe σV vs) ρ F H { s with σ := wipeR s.σ vs } ∧ H p = some (.lst accV) ∧ Reps K ρ F H acc accV ∧ accV.length ≤ n ∧ W acc s
theorem wipeR_twice (σ : List Rv) (vs : List Nat) : wipeR (wipeR σ vs) vs = wipeR σ vs := by
  apply List.ext_getElem?
  intro i
  have key : ∀ (τ : List Rv) (us : List Nat), (i ∈ us → i < τ.length → (wipeR τ us)[i]? = some .un) ∧ (i ∉ us → (wipeR τ us)[i]? = τ[i]?) := by
    intro τ us
    induction us with
    | nil => exact ⟨fun m => by simp at m, fun _ => rfl⟩
    | cons v us ih =>
      refine ⟨fun m h => ?_, fun m => ?_⟩
      · simp only [wipeR]
        by_cases e : v = i
        · rw [e, List.getElem?_set_self (by rw [wipeR_len]; exact h)]
        · rw [List.getElem?_set_ne e]
          exact ih.1 ((List.mem_cons.mp m).resolve_left fun z => e z.symm) h
      · simp only [wipeR]
        rw [List.getElem?_set_ne (fun e => m (by rw [e]; exact List.mem_cons_self))]
        exact ih.2 fun w => m (List.mem_cons_of_mem _ w)
  by_cases m : i ∈ vs
  · by_cases k : i < σ.length
    · rw [(key _ _).1 m (by rw [wipeR_len]; exact k), (key _ _).1 m k]
    · rw [List.getElem?_eq_none (by simp only [wipeR_len]; omega), List.getElem?_eq_none (by simp only [wipeR_len]; omega)]
  · rw [(key _ _).2 m]

section
variable {g : Gd} {c : Cc} {pos : Pos} {tgE it elt : Expr} {ifs : List Expr} {scope : Scope} {own : List (Str × Nat)} {tg : Tg} {ii : I} {cn : B} {el : E}
theorem lc_parts (hi : SI g c tgE it ii) (hset : isSet it = false) (hb : L2.blkC c.N c.sc scope own = true) (htg : STg g (inner c scope) tgE tg) (hsl : ∀ n, n ∈ slots tg → n ∈ own.map (·.2)) (hc : STs g (inner c scope) ifs cn) (he : SE g (inner c scope) elt el) :
    ∃ (wi : TI) (gt : TG) (tt : L2.TT) (te : TE), (∀ X, XOk g c X → PI X tgE it wi) ∧ (∀ X, XOk g (inner c scope) X → PG X tgE gt) ∧ (∀ X, XOk g (inner c scope) X → L2.PTs X ifs tt) ∧ (∀ X, XOk g (inner c scope) X → PE X elt te) ∧
      ∀ b σV ρ F H s Q, Rl g.K g.Tb b σV ρ F H s → WG g.K g.Tb b σV ρ F H (RepR g.K b σV) Q (evE g.C g.D (.lc (own.map (·.2)) tg ii cn el) s) → L2.tLc wi gt tt te (own.map (·.2)) σV H Q := by
  obtain ⟨wi, i1, i2⟩ := hi
  obtain ⟨gt, g1, g2⟩ := htg
  obtain ⟨tt, t1, t2⟩ := hc
  obtain ⟨te, e1, e2⟩ := he
  refine ⟨wi, gt, tt, te, i1, g1, t1, e1, fun b σV ρ F H s Q rl h => ?_⟩
  generalize hvs : own.map (·.2) = vs at *
  simp only [evE] at h
  refine h.part (T := fun Q' => wi σV H Q') (fun Q' q => i2 _ _ _ _ _ _ _ rl q) fun l s1 J ρ1 F1 H1 _ x1 r1 itok q1 => ?_
  obtain ⟨⟨no, hl⟩, q2⟩ := q1.ite
  obtain ⟨G, Y, w, hG, hY⟩ := itok.ex
  intro p hp
  obtain ⟨f1, f2, f3, f4, f5⟩ := r1.free hp
  have q3 : WG g.K g.Tb b σV ρ1 F1 H1 (RepR g.K b σV) Q ((lcL (lcStep g.C g.D vs tg cn el) l s1 []).b2 fun r s' => .ok (.mls r, { s' with σ := backR s1.σ s'.σ vs })) := q2
  let W : Nat → List D → S → Prop := fun n acc s => WG g.K g.Tb b σV ρ1 F1 H1 (RepR g.K b σV) Q ((lcL (lcStep g.C g.D vs tg cn el) (l.drop n) s acc).b2 fun r s' => .ok (.mls r, { s' with σ := backR s1.σ s'.σ vs }))
  refine L2.lc_it w (fun n Hc => LcP g.K g.Tb b σV ρ1 F1 H1 p vs (W n) n Hc) ?_ (fun n Hc _ ⟨⟨acc, accV, ρ, F, s, x, r, _⟩⟩ => hG ρ F Hc (x.toS r1)) ?_ ?_
  · have r2 := (r1.wipe vs).guard (p := p) (o := .lst []) hp id
    exact ⟨⟨[], [], ρ1, F1, s1, ExE.same (same_upd hp), r2, upd_same, Reps.nil, Nat.le_refl _, q3⟩⟩
  · rintro n x Hc Hc' hn ⟨⟨acc, accV, ρ, F, s, x2, r, k1, k2, k3, k4⟩⟩ y
    have dn : l[n]? = some l[n] := by simp [hn]
    obtain ⟨sm, rep⟩ := hY ρ F Hc n x Hc' l[n] (x2.toS r1) y dn
    have dr : l.drop n = l[n] :: l.drop (n + 1) := List.drop_eq_getElem_cons hn
    have k4' : WG g.K g.Tb b σV ρ1 F1 H1 (RepR g.K b σV) Q ((lcL (lcStep g.C g.D vs tg cn el) (l[n] :: l.drop (n + 1)) s acc).b2 fun r s' => .ok (.mls r, { s' with σ := backR s1.σ s'.σ vs })) := by rw [← dr]; exact k4
    simp only [lcL, b2_assoc] at k4'
    obtain ⟨yo, s2, z1, k5⟩ := b2_ok k4'
    unfold lcStep at z1
    cases z : asgT tg (.val l[n]) (wipeR s.σ vs) with
    | none => rw [z] at z1; cases z1
    | some σ1 =>
      rw [z] at z1
      simp only [opt, Res.bind] at z1
      have r' := r.same sm
      refine g2 (b.and p) (L2.wipe σV vs) ρ F Hc' { s with σ := wipeR s.σ vs } l[n] x σ1 _ r' rep z fun σV2 rl2 o2 l2 => ?_
      have hw : L2.wipe σV2 vs = L2.wipe σV vs := by
        rw [← wipe_twice σV vs]
        exact wipe_ext l2 fun i m => o2 i fun q => m (hsl i q)
      refine ⟨hw, ?_⟩
      cases z2 : evB g.C g.D cn { s with σ := σ1 } with
      | exc _ => rw [z2] at z1; cases z1
      | bad => rw [z2] at z1; cases z1
      | ok q =>
        obtain ⟨k, s3⟩ := q
        rw [z2] at z1
        simp only [Res.b2] at z1
        refine t2 (b.and p) σV2 ρ F Hc' { s with σ := σ1 } _ rl2 (WG.of z2 fun k' ρ3 F3 H3 x3 r3 e3 => ?_)
        subst e3
        have xa : ExE ρ1 F1 H1 ρ3 F3 H3 := (x2.trans (ExE.same sm)).trans x3
        have xb : ExE ρ F Hc ρ3 F3 H3 := (ExE.same sm).trans x3
        have hp3 : H3 p = some (.lst accV) := x3.all _ _ (sm _ _ k1) r.guarded.2.1 id
        cases k' with
        | false =>
          rw [if_neg (by decide)] at z1 ⊢
          cases z1
          refine ⟨⟨acc, accV, ρ3, F3, _, xa, ?_, hp3, Reps.mono (xb.toS r) _ _ k2, by omega, k5⟩⟩
          have := r3.wipe vs
          rw [hw] at this
          simpa only [wipeR_twice] using this
        | true =>
          rw [if_pos rfl] at z1 ⊢
          cases z3 : evE g.C g.D el s3 with
          | exc _ => rw [z3] at z1; cases z1
          | bad => rw [z3] at z1; cases z1
          | ok q =>
            obtain ⟨yr, s4⟩ := q
            rw [z3] at z1
            simp only [Res.b2] at z1
            cases z1
            refine e2 (b.and p) σV2 ρ3 F3 H3 s3 _ r3 (WG.of z3 fun v ρ4 F4 H4 x4 r4 e4 => ?_)
            obtain ⟨F5, m5, r5, p5⟩ := RepR.fz r4 e4
            have x5 : ExE ρ3 F3 H3 ρ4 F5 H4 := x4.trans (ExE.more m5)
            have hp4 : H4 p = some (.lst accV) := x5.all _ _ hp3 r3.guarded.2.1 id
            have hl2 : l.length ≤ sizeLine := hl
            refine ⟨accV, hp4, by omega, ?_⟩
            have nf := r5.guarded.1
            have xu : ExS ρ4 F5 H4 ρ4 F5 (upd H4 p (.lst (accV ++ [v]))) := exS_upd nf fun u e => by rw [hp4] at e; cases e; trivial
            have xc : ExE ρ F Hc ρ4 F5 H4 := xb.trans x5
            refine ⟨⟨acc ++ [yr.fz], accV ++ [v], ρ4, F5, { s4 with σ := wipeR s4.σ vs }, (xa.trans x5).updNew hp, ?_, upd_same, ?_, ?_, ?_⟩⟩
            · have := (r5.wipe vs).updP (p := p) (o := .lst (accV ++ [v])) (.inr rfl) f3 (fun u e => by rw [hp4] at e; cases e; trivial) id
              rw [hw] at this
              simpa only [wipeR_twice] using this
            · exact Reps.mono xu _ _ (Reps.append (Reps.mono (xc.toS r) _ _ k2) (Reps.one p5))
            · simp only [List.length_append, List.length_singleton]; omega
            · exact k5
  · rintro Hc ⟨⟨acc, accV, ρ, F, s, x2, r, k1, k2, k3, k4⟩⟩
    have k4' : WG g.K g.Tb b σV ρ1 F1 H1 (RepR g.K b σV) Q ((lcL (lcStep g.C g.D vs tg cn el) [] s acc).b2 fun r s' => .ok (.mls r, { s' with σ := backR s1.σ s'.σ vs })) := by
      rw [← List.drop_length (l := l)]; exact k4
    simp only [lcL, Res.b2] at k4'
    have rb := r.unguard.back r1 (x2.toS r1) no
    simp only [backR_wipe] at rb
    refine k4' (.ref p) ρ F Hc x2 rb ⟨p, accV, rfl, ⟨k1, k2, r.guarded.1, r.guarded.2.1, f3, f4⟩, fun i l' e q => ?_⟩
    rcases backR_some e with ⟨m, z⟩ | ⟨z, m⟩
    · unfold noOwn at no
      rw [List.all_eq_true] at no
      have := no i m
      rw [← z] at this
      cases this
    · exact r.guarded.2.2 i l' (by show (wipeR s.σ vs)[i]? = _; rw [wipeR_out m]; exact z) (by rw [L2.wipe_out m]; exact q)
theorem se_lc (hi : SI g c tgE it ii) (hset : isSet it = false) (hb : L2.blkC c.N c.sc scope own = true) (htg : STg g (inner c scope) tgE tg) (hsl : ∀ n, n ∈ slots tg → n ∈ own.map (·.2)) (hc : STs g (inner c scope) ifs cn) (he : SE g (inner c scope) elt el) :
    SE g c (.ListComp elt [⟨tgE, it, ifs, 0⟩] scope pos) (.lc (own.map (·.2)) tg ii cn el) := by
  obtain ⟨wi, gt, tt, te, i1, g1, t1, e1, sem⟩ := lc_parts hi hset hb htg hsl hc he
  refine ⟨L2.tLc wi gt tt te (own.map (·.2)), fun X hX => ?_, sem⟩
  exact L2.pe_lc hX.calm (by rw [hX.N]; exact hX.nd) (i1 X hX) (by rw [hX.N, hX.sc]; exact L2.blkOk_by hb) (fun s H C cl fp => g1 _ (hX.inner s H scope C cl fp)) (fun s H C cl fp => t1 _ (hX.inner s H scope C cl fp)) (fun s H C cl fp => e1 _ (hX.inner s H scope C cl fp)) (set_iter hset _)
end
end Ev


set_option Elab.async false
set_option linter.all false
set_option autoImplicit false
set_option maxRecDepth 100000
set_option maxHeartbeats 1000000
/-! GxA: all, any of a generator expression whose element may call defs: the generator's own run. -/
namespace Ev
open PySem PySem.Spec PyProof.Rows GenW
open L2 (V Hp HO Inv Turn It FpOk PE PG PTs TG TT TE VK Cx)

/-- a comprehension's code over no frame of its own -/
theorem over_gx {A : Around} {elt : Expr} {gs : List Comprehension} {scope : Scope} {pos : Pos} {it acc : Value} {env : Env} :
    A.over (.compLoop (.GeneratorExp elt gs scope pos) 0 it acc env) [] = A.deeper env := by
  first
    | rfl
    | (obtain ⟨hd, d, fr, gs, u⟩ := A; simp [Around.over, Around.deeper, marksOver, frameCount, unitsOf, envsOf, guardsOf, pushEnvs, pushGuards, Code.envs, Code.env?, Code.isFrame, Code.guards, Code.isGuard, Code.weight, Code.frames, Code.isCreation, Code.isCaller, Code.cUnits])

/-- what is kept while the generator sleeps -/
structure Kept (s s' : Shared) : Prop where
  os : s'.os = s.os
  bare : AllBare s'.gens
  keep : ∀ b o, s.heap.get? b = some o → s'.heap.get? b = some o
theorem Kept.inv {X : Cx} {pins : List (Addr × Obj)} {σ : L2.St} {H : Hp} {s s' : Shared} (k : Kept s s') (I : Inv X pins σ H s) : Inv X pins σ H s' :=
  I.call' (ch := []) k.os (L2.Un.kept k.keep) (I.hok.kept k.keep) k.bare fun b z => by simp at z

/-- the turns: W by the turn and a measure; al: what lets the walk go on -/
def GxW (al : Bool) (J : It) (σm : L2.St) (gt : TG) (tt : TT) (te : TE) (Q : Bool → Hp → Prop) (W : Nat → Nat → Hp → Prop) : Prop := ∀ i m H, W i m H →
  (J.stop i H ∧ Q al H) ∨ (J.go i H ∧ ∃ Nx : Hp → Prop, (∀ H', Nx H' → ∃ m', m' < m ∧ W (i + 1) m' H') ∧ ∀ x H', J.yld i H x H' → gt x σm H' fun σ2 H3 =>
    (σ2.length = σm.length ∧ ∀ (i : Nat) v, σm[i]? = some (some v) → σ2[i]? = some (some v)) ∧ tt σ2 H3 fun k H4 =>
      if k = true then te σ2 H4 fun v H5 => ∃ b, v = .bl b ∧ if b = al then Nx H5 else Q b H5 else Nx H4)

/-- an item is handed out -/
def GxY (X : Cx) (σm : L2.St) (al : Bool) (Q : Bool → Hp → Prop) : Protocol := fun n s₀ v s kap =>
  ∃ b H, v = .bool b ∧ Inv X [] σm H s ∧ if b = al then ∀ s', Kept s s' → kap (.send .none) s' else Q b H
def GxR (X : Cx) (σm : L2.St) (al : Bool) (Q : Bool → Hp → Prop) : GenEnd := fun n s₀ r s => r = .ok .next ∧ ∃ H, Inv X [] σm H s ∧ Q al H

section
variable {X : Cx} {A : Around} {tg iter elt : Expr} {ifs : List Expr} {scope : Scope} {pos : Pos} {J : It} {fp : List Addr} {it : Addr} {tn : Nat → Heap → Prop} {σm : L2.St} {gt : TG} {tt : TT} {te : TE} {al : Bool} {Q : Bool → Hp → Prop} {W : Nat → Nat → Hp → Prop}
theorem seg_gx (hov : A.deeper X.env = X.A) (hc : X.calm = true) (T : Turn X.prog X.w X.K tg J fp it tn) (hg : PG X tg gt) (ht : PTs X ifs tt) (he : PE X elt te) (hxe : ∀ e s, ¬ X.xe e s) (hco : X.env.scope.isCoroutine = false) (hW : GxW al J σm gt tt te Q W) :
    ∀ (m i : Nat) (s₀ s : Shared) (H : Hp) (n : Nat), Inv X [] σm H s → tn i s.heap → (∀ b ∈ fp, FpOk X [] H b) → W i m H → m < n →
      Seg (model X.prog X.w) A (GxR X σm al Q) (GxY X σm al Q) n s₀ (.compLoop (.GeneratorExp elt [⟨tg, iter, ifs, 0⟩] scope pos) 0 (.ref it) .none X.env)
        ((model X.prog X.w).den (.compLoop (.GeneratorExp elt [⟨tg, iter, ifs, 0⟩] scope pos) 0 (.ref it) .none X.env)) [] s := by
  have ov : A.over (.compLoop (.GeneratorExp elt [⟨tg, iter, ifs, 0⟩] scope pos) 0 (.ref it) .none X.env) [] = X.A := over_gx.trans hov
  intro m
  induction m using Nat.strongRecOn with
  | ind m ih =>
  intro i s₀ s H n I ti hf hw hmn
  show Seg _ A _ _ _ s₀ _ ((compTurn (.GeneratorExp elt [⟨tg, iter, ifs, 0⟩] scope pos) 0 (.ref it) .none X.env).onRaise (leaving X.env)) [] s
  rw [compTurn_gen, Sem.onRaise_eq_wrap]
  refine seg_bind_wrap (wpAny_standAt ?_)
  rcases hW i m H hw with ⟨hs, hq⟩ | ⟨hgo, Nx, hNx, hy⟩
  · refine seg_bind_wrap ?_
    rw [ov]
    refine wpAny_mono (T.done X rfl rfl rfl hc i [] s σm H (fun _ _ => False) I hf ti hs) (fun r s1 ⟨hr, I1⟩ => ?_) fun _ _ z => z.elim
    subst hr
    exact seg_end (.ok .next) ⟨rfl, H, I1, hq⟩
  · refine seg_bind_wrap ?_
    rw [ov]
    refine wpAny_mono (T.item X rfl rfl rfl hc i [] s σm H (fun _ _ => False) I hf ti hgo) (fun r s1 ⟨u, hr, h1⟩ => ?_) fun _ _ z => z.elim
    subst hr
    refine seg_bind_wrap ?_
    rw [ov]
    refine wpAny_mono h1 (fun _ s2 ⟨x, H', I2, rx, hyl, ti2, hn2⟩ => ?_) fun _ _ z => z.elim
    obtain ⟨ps, hps⟩ : ∃ ps : List (Addr × Obj), (∀ b ∈ fp, ∃ o, (b, o) ∈ ps) ∧ ∀ p ∈ ps, p.1 ∈ fp ∧ s2.heap.get? p.1 = some p.2 ∧ ∀ v, p.2.data ≠ .cell v := by
      have ob := T.obj (i + 1) s2.heap ti2
      clear hf hn2
      have key : ∀ l : List Addr, (∀ b ∈ l, b ∈ fp) → ∃ ps : List (Addr × Obj), (∀ b ∈ l, ∃ o, (b, o) ∈ ps) ∧ ∀ p ∈ ps, p.1 ∈ fp ∧ s2.heap.get? p.1 = some p.2 ∧ ∀ v, p.2.data ≠ .cell v := by
        intro l
        induction l with
        | nil => exact fun _ => ⟨[], fun b hb => by simp at hb, fun p hp => by simp at hp⟩
        | cons b l ihl =>
          intro hl
          obtain ⟨ps, h1, h2⟩ := ihl fun c hc => hl c (List.mem_cons_of_mem _ hc)
          obtain ⟨o, h3, h4⟩ := ob b (hl b List.mem_cons_self)
          refine ⟨(b, o) :: ps, fun c hc => ?_, fun p hp => ?_⟩
          · rcases List.mem_cons.mp hc with z | z
            · exact ⟨o, by rw [z]; exact List.mem_cons_self⟩
            · obtain ⟨o', h5⟩ := h1 c z
              exact ⟨o', List.mem_cons_of_mem _ h5⟩
          · rcases List.mem_cons.mp hp with z | z
            · rw [z]; exact ⟨hl b List.mem_cons_self, h3, h4⟩
            · exact h2 p z
      exact key fp fun _ h => h
    obtain ⟨hp1, hp2⟩ := hps
    have I2p : Inv X ps σm H' s2 := I2.pins_of fun p hp => by
      obtain ⟨q1, q2, q3⟩ := hp2 p hp
      obtain ⟨_, q4, q5, _⟩ := hf p.1 q1
      exact ⟨q2, hn2 p.1 q1, q4, q5, q3⟩
    -- behind an evaluation: the iterator stands as it stood
    have back : ∀ {σ2 : L2.St} {H5 : Hp} {s5 : Shared}, Inv X ps σ2 H5 s5 → (σ2.length = σm.length ∧ ∀ (i : Nat) v, σm[i]? = some (some v) → σ2[i]? = some (some v)) →
        Inv X [] σm H5 s5 ∧ tn (i + 1) s5.heap ∧ ∀ b ∈ fp, FpOk X [] H5 b := fun {σ2 H5 s5} I5 hσ => by
      refine ⟨(I5.weak hσ.1.symm hσ.2).pins_of fun p hp => by simp at hp, T.keep _ _ _ ti2 fun b hb o e => ?_, fun b hb => ?_⟩
      · obtain ⟨o', ho'⟩ := hp1 b hb
        obtain ⟨_, q2, _⟩ := hp2 _ ho'
        have e1 : o = o' := by
          have := e.symm.trans q2
          exact Option.some.inj this
        rw [e1]
        exact (I5.pin (b, o') (List.mem_append_right _ ho')).1
      · obtain ⟨o', ho'⟩ := hp1 b hb
        obtain ⟨_, z2, z3, z4, z5, z6⟩ := hf b hb
        exact ⟨(I5.pin (b, o') (List.mem_append_right _ ho')).2.1, z2, z3, z4, z5, z6⟩
    refine seg_bind_wrap ?_
    rw [ov]
    refine wpAny_mono (hg.run _ _ _ _ _ _ _ I2p rx (hy x H' hyl)) (fun _ s3 hq3 => ?_) fun e s' z => (hxe e s' z).elim
    obtain ⟨σ2, H3, I3, hσ, q3⟩ := hq3
    refine seg_bind_wrap ?_
    rw [ov]
    refine wpAny_mono (ht.run ps s3 σ2 H3 _ I3 q3) (fun k s4 ⟨H4, I4, q4⟩ => ?_) fun e s' z => (hxe e s' z).elim
    cases k with
    | false =>
      rw [if_neg (by decide)] at q4
      simp only [Bool.false_eq_true, if_false]
      obtain ⟨m', hm', hw'⟩ := hNx H4 q4
      obtain ⟨J1, J2, J3⟩ := back I4 hσ
      exact seg_again rfl (ih m' hm' (i + 1) s₀ s4 H4 n J1 J2 J3 hw' (by omega))
    | true =>
      rw [if_pos rfl] at q4
      simp only [if_true]
      have hyo : ∀ v, yieldOut X.env v = yieldValue v := fun v => by simp only [yieldOut, hco, Bool.false_eq_true, if_false]
      simp only [hyo]
      rw [Sem.bind_eq_wrap', Sem.bind_eq_wrap', Sem.wrap_wrap, Sem.wrap_wrap]
      refine seg_wrap ?_
      rw [ov]
      refine wpAny_mono (he.run ps s4 σ2 H4 _ I4 q4) (fun y s5 hy5 => ?_) fun e s' z => (hxe e s' z).elim
      obtain ⟨v, H5, I5, rv, b, hv, q5⟩ := hy5
      subst hv
      have ey : y = Value.bool b := rv
      subst ey
      obtain ⟨J1, J2, J3⟩ := back I5 hσ
      have hn : ∃ n', n = n' + 1 := ⟨n - 1, by omega⟩
      obtain ⟨n, rfl⟩ := hn
      refine seg_at (seg_yield rfl rfl rfl ⟨b, H5, rfl, J1, ?_⟩)
      by_cases hb : b = al
      · rw [if_pos hb] at q5 ⊢
        obtain ⟨m', hm', hw'⟩ := hNx H5 q5
        intro s'' hk
        refine seg_again rfl (ih m' hm' (i + 1) s'' s'' H5 n (hk.inv J1) (T.keep _ _ _ J2 fun b _ o e => hk.keep b o e) J3 hw' (by omega))
      · rw [if_neg hb] at q5 ⊢
        exact q5
end
end Ev


set_option Elab.async false
set_option linter.all false
set_option autoImplicit false
set_option maxRecDepth 100000
set_option maxHeartbeats 1000000
/-! GxB: the consumers all, any. -/
namespace Ev
open PySem PySem.Spec PyProof.Rows GenW
open L2 (V Hp HO Inv Turn It FpOk PE PG PTs TG TT TE VK Cx allBare_setGen setGen_at)
def loopId (al : Bool) : String := if al then "all.loop" else "any.loop"
section
variable {X : Cx} {A : Around} {σm : L2.St} {al : Bool} {Q : Bool → Hp → Prop} {a : Addr} {g : Nat} {R : Result → Shared → Prop}
theorem next_gx (hh : A.handled = none) (hd : A.depth < recursionLimit) (hgen : ∀ H s, Inv X [] σm H s → s.heap.IsGen a g) {n : Nat} {s : Shared} {H : Hp} {gs : GenState} {Q' : Option Value → Shared → Prop} {E : Value → Shared → Prop} (I : Inv X [] σm H s) (hgs : s.gens[g]? = some gs)
    (hgo : gs.Goes (model X.prog X.w) A.in1 (GxR X σm al Q) (GxY X σm al Q) n (.send .none) (s.setGen g .running))
    (hY : ∀ b s1 gs' H1, Inv X [] σm H1 s1 → s1.gens[g]? = some gs' → (if b = al then ∃ m, n = m + 1 ∧ gs'.Goes (model X.prog X.w) A.in1 (GxR X σm al Q) (GxY X σm al Q) m (.send .none) (s1.setGen g .running) else Q b H1) → Q' (some (.bool b)) s1)
    (hN : ∀ s1 H1, Inv X [] σm H1 s1 → Q al H1 → Q' none s1) : wpAny (model X.prog X.w) A (pyNext (.ref a)) Q' E s := by
  have hgl : g < s.gens.size := (Array.getElem?_eq_some_iff.mp hgs).1
  refine wpAny_gsz (n := g + 1) hgl (wpAny_pyNext_genexpQ (P := fun n s₀ s => ∃ H, Inv X [] σm H s ∧ Q al H) hh I.nolimit hd (hgen _ _ I) hgs hgo (fun v s₁ gs' hb hv => ?_) fun s₁ hp h' hk => ?_)
  · obtain ⟨b, H1, rfl, I1, hq⟩ := hv
    intro hsz
    have hsz1 : g < s₁.gens.size := by
      have q : (s₁.setGen g gs').gens.size = s₁.gens.size := GenW.setGen_size _ _ _
      have hsz' : g + 1 ≤ (s₁.setGen g gs').gens.size := hsz
      omega
    have k1 : Kept s₁ (s₁.setGen g gs') := ⟨rfl, allBare_setGen I1.bare hb, fun _ _ e => e⟩
    refine hY b _ gs' H1 (k1.inv I1) (setGen_at hsz1) ?_
    by_cases hal : b = al
    · rw [if_pos hal] at hq ⊢
      have k2 : Kept s₁ ((s₁.setGen g gs').setGen g .running) := ⟨rfl, allBare_setGen (allBare_setGen I1.bare hb) rfl, fun _ _ e => e⟩
      have := hq _ k2
      cases n with
      | zero => exact this.elim
      | succ m => exact ⟨m, rfl, this⟩
    · rw [if_neg hal] at hq ⊢
      exact hq
  · obtain ⟨H1, I1, hq⟩ := hp
    intro _
    have k1 : Kept s₁ { s₁.setGen g .finished with heap := h' } := ⟨rfl, allBare_setGen I1.bare rfl, hk⟩
    exact hN _ H1 (k1.inv I1) hq

theorem all_gx (hh : A.handled = none) (hd : A.depth < recursionLimit) (hgen : ∀ H s, Inv X [] σm H s → s.heap.IsGen a g) (hR : ∀ b s H, Inv X [] σm H s → Q b H → R (.ok (.ret (.bool b))) s) :
    ∀ (n : Nat) (s : Shared) (H : Hp) (gs : GenState), Inv X [] σm H s → s.gens[g]? = some gs → gs.Goes (model X.prog X.w) A.in1.in1 (GxR X σm true Q) (GxY X σm true Q) n (.send .none) (s.setGen g .running) →
      codeAny (model X.prog X.w) A (.builtin "all.loop" ⟨[.ref a], []⟩) R s := by
  intro n
  induction n using Nat.strongRecOn with
  | ind n ih =>
  intro s H gs I hgs hgo
  refine codeAny_builtin F.entry_all_loop ?_
  rw [Around.under_plainId F.plain_all_loop _]
  show wpAny _ A.in1 (pyNext (.ref a) >>= _) _ _ s
  refine wpAny_bind (next_gx (A := A.in1) hh hd hgen I hgs hgo (fun b s1 gs' H1 I1 hgs1 hq => ?_) fun s1 H1 I1 hq => ?_)
  · refine wpAny_bind (wpAny_holding (wpAny_truthy_bool ?_))
    refine wpAny_bind (wpAny_letGo ?_)
    cases b with
    | true =>
      rw [if_pos rfl] at hq
      obtain ⟨m, rfl, hq⟩ := hq
      simp only [if_true]
      exact wpAny_pure ⟨plainId_quiet F.plain_all_loop _, ih m (by omega) _ H1 gs' I1 hgs1 hq⟩
    | false =>
      rw [if_neg (by decide)] at hq
      simp only [Bool.false_eq_true, if_false]
      exact wpAny_bind (wpAny_rule (wpAny_pure (hR false _ H1 I1 hq)))
  · exact wpAny_bind (wpAny_rule (wpAny_pure (hR true _ H1 I1 hq)))
theorem any_gx (hh : A.handled = none) (hd : A.depth < recursionLimit) (hgen : ∀ H s, Inv X [] σm H s → s.heap.IsGen a g) (hR : ∀ b s H, Inv X [] σm H s → Q b H → R (.ok (.ret (.bool b))) s) :
    ∀ (n : Nat) (s : Shared) (H : Hp) (gs : GenState), Inv X [] σm H s → s.gens[g]? = some gs → gs.Goes (model X.prog X.w) A.in1.in1 (GxR X σm false Q) (GxY X σm false Q) n (.send .none) (s.setGen g .running) →
      codeAny (model X.prog X.w) A (.builtin "any.loop" ⟨[.ref a], []⟩) R s := by
  intro n
  induction n using Nat.strongRecOn with
  | ind n ih =>
  intro s H gs I hgs hgo
  refine codeAny_builtin F.entry_any_loop ?_
  rw [Around.under_plainId F.plain_any_loop _]
  show wpAny _ A.in1 (pyNext (.ref a) >>= _) _ _ s
  refine wpAny_bind (next_gx (A := A.in1) hh hd hgen I hgs hgo (fun b s1 gs' H1 I1 hgs1 hq => ?_) fun s1 H1 I1 hq => ?_)
  · refine wpAny_bind (wpAny_holding (wpAny_truthy_bool ?_))
    refine wpAny_bind (wpAny_letGo ?_)
    cases b with
    | false =>
      rw [if_pos rfl] at hq
      obtain ⟨m, rfl, hq⟩ := hq
      simp only [Bool.false_eq_true, if_false]
      exact wpAny_pure ⟨plainId_quiet F.plain_any_loop _, ih m (by omega) _ H1 gs' I1 hgs1 hq⟩
    | true =>
      rw [if_neg (by decide)] at hq
      simp only [if_true]
      exact wpAny_bind (wpAny_rule (wpAny_pure (hR true _ H1 I1 hq)))
  · exact wpAny_bind (wpAny_rule (wpAny_pure (hR false _ H1 I1 hq)))
end

/-- seen from the generator: the def's frame is a caller's -/
def gx (X : Cx) (A : Around) (env : Env) (s : Shared) (H : Hp) (fp : List Addr) (pn : List (Addr × Obj)) : Cx :=
  { prog := X.prog, w := X.w, K := X.K, mg := X.mg, base := X.base, A := A.deeper env, N := X.N, s_0 := s, H_0 := H, env := env, outer := X.stack, stack := env :: X.stack, ex := fp, fn := fun _ => false, calm := true, pn := pn, xe := fun _ _ => False }
/-- the def's names that it sees: those at cs -/
def mskV (σ : L2.St) (cs : List Nat) : L2.St := σ.mapIdx fun i x => if i ∈ cs then x else none
theorem mskV_get {σ : L2.St} {cs : List Nat} {i : Nat} {v : V} (h : (mskV σ cs)[i]? = some (some v)) : i ∈ cs ∧ σ[i]? = some (some v) := by
  unfold mskV at h
  rw [List.getElem?_mapIdx] at h
  cases e : σ[i]? with
  | none => rw [e] at h; cases h
  | some y =>
    rw [e] at h
    simp only [Option.map_some, Option.some.injEq] at h
    by_cases m : i ∈ cs
    · rw [if_pos m] at h; exact ⟨m, by rw [h]⟩
    · rw [if_neg m] at h; cases h
theorem mskV_len {σ : L2.St} {cs : List Nat} : (mskV σ cs).length = σ.length := by simp [mskV]
end Ev


set_option Elab.async false
set_option linter.all false
set_option autoImplicit false
set_option maxRecDepth 100000
set_option maxHeartbeats 2000000
/-! GxC: all, any of a generator expression, as an expression. -/
namespace Ev
open PySem PySem.Spec PyProof.Rows GenW
open L2 (V Hp HO Inv Turn It FpOk PE PI PG PTs TG TT TE TI VK Cx Room Gl frs cloFrom)
open GxR (TabB TabG Tabbed)
/-- the scope of a generator expression; cs: the slots of the captured names -/
structure GSc (X : Cx) (scope : Scope) (cs : List Nat) : Prop where
  kind : scope.kind = .function
  co : scope.isCoroutine = false
  cell : ∀ y ∈ scope.names, y.2 ≠ .cell
  dot : scope.names.lookup (".0" : Str) = some NameKind.local
  uniq : ∀ y ∈ scope.names, scope.names.lookup y.1 = some y.2
  free : ∀ y ∈ scope.names, y.2 = .free → X.env.scope.names.lookup y.1 = some .cell ∨ X.env.scope.names.lookup y.1 = some .free
  caps : ∀ i ∈ cs, ∀ x, X.N[i]? = some x → scope.names.lookup x = some .free
theorem GSc.has {X : Cx} {scope : Scope} {cs : List Nat} {pins : List (Addr × Obj)} {σ : L2.St} {H : Hp} {s : Shared} (S : GSc X scope cs) (I : Inv X pins σ H s) : ∀ y ∈ scope.names, y.2 = .free → ∃ c, X.env.cells.lookup y.1 = some c := fun y hy e => by
  rcases S.free y hy e with k | k
  · exact I.ok.has _ (.inl k)
  · exact I.ok.has _ (.inr k)
/-- a captured name's cell -/
theorem GSc.clo {X : Cx} {scope : Scope} {cs : List Nat} (S : GSc X scope cs) {x : Str} {c : Addr} (h : (cloFrom X.env.cells scope.names []).lookup x = some c) (hh : ∀ y ∈ scope.names, y.2 = .free → ∃ c, X.env.cells.lookup y.1 = some c) :
    (x, NameKind.free) ∈ scope.names ∧ X.env.cells.lookup x = some c := by
  rcases L2.cloFrom_mem (PySem.mem_of_lookup h) with z | ⟨z1, z2⟩
  · simp at z
  · obtain ⟨c', e⟩ := hh _ z1 rfl
    refine ⟨z1, ?_⟩
    have e' : X.env.cells.lookup x = some c' := e
    rw [z2, e']
    rfl
theorem GSc.clo' {X : Cx} {scope : Scope} {cs : List Nat} (S : GSc X scope cs) {x : Str} (h : (x, NameKind.free) ∈ scope.names) (hh : ∀ y ∈ scope.names, y.2 = .free → ∃ c, X.env.cells.lookup y.1 = some c) :
    ∃ c, (cloFrom X.env.cells scope.names []).lookup x = some c ∧ X.env.cells.lookup x = some c := by
  obtain ⟨c, e⟩ := L2.mem_lookup (L2.cloFrom_has (cells := X.env.cells) (acc := []) h)
  exact ⟨c, e, (S.clo e hh).2⟩

/-- the generator's run begins -/
theorem gx_start {X : Cx} {pins : List (Addr × Obj)} {σ : L2.St} {H : Hp} {s : Shared} {scope : Scope} {cs : List Nat} {fp : List Addr} {code : Value} {m0 : Str → Option Value} {h5 : Heap} {go : Obj} {ga : Addr} {gens : Array GenState} {tk : Nat} {A : Around}
    (S : GSc X scope cs) (I : Inv X pins σ H s) (hh : A.handled = none) (hfr : A.frames = some X.stack) (hf : ∀ b ∈ fp, FpOk X pins H b) (hthere : ∀ b ∈ fp, ∃ o, s.heap.get? b = some o)
    (hns : h5.Ns s.heap.objs.size m0) (hk : ∀ b o, s.heap.get? b = some o → h5.get? b = some o) (hga : s.heap.objs.size < ga) (hgo : h5.get? ga = some go) (hgd : ∀ v, go.data ≠ .cell v) (hb : AllBare gens) :
    Inv (gx X A (genEnv scope (cloFrom X.env.cells scope.names []) s.heap.objs.size code builtinsNs X.env) s H fp [(ga, go)]) [] (mskV σ cs) H { s with heap := h5, gens := gens, toks := tk } ∧
      ∀ b ∈ fp, FpOk (gx X A (genEnv scope (cloFrom X.env.cells scope.names []) s.heap.objs.size code builtinsNs X.env) s H fp [(ga, go)]) [] H b := by
  have has := S.has I
  have lts : ∀ b ∈ fp, b < s.heap.objs.size := fun b hb => let ⟨o, e⟩ := hthere b hb; Heap.lt_size e
  have nstk : ∀ b, s.heap.objs.size ≤ b → b ∉ frs X.stack := fun b hb hm => by
    rcases List.mem_cons.mp (I.stkSub b hm) with z | z
    · rw [z] at hb; exact absurd (Nat.lt_of_lt_of_le I.lt hb) (Nat.lt_irrefl _)
    · exact I.nofs hb z
  have fstk : ∀ b ∈ fp, b ∉ frs X.stack := fun b hb hm => by
    obtain ⟨_, z1, z2, _⟩ := hf b hb
    rcases List.mem_cons.mp (I.stkSub b hm) with z | z
    · exact z1 z
    · exact z2 z
  have kc : ∀ x c, (cloFrom X.env.cells scope.names []).lookup x = some c → X.env.cells.lookup x = some c := fun x c e => (S.clo e has).2
  refine ⟨⟨⟨I.ok.mod, S.kind, I.ok.glob, rfl, Nat.le_refl _, fun x y c h1 h2 => I.ok.inj x y c (kc x c h1) (kc y c h2), fun x hx => ?_, fun x c h _ => (by cases h), fun _ => hh, Around.frames_deeper hfr, .inr ⟨rfl, rfl⟩, fun b hb => ⟨Nat.ne_of_lt (lts b hb), fun x c e => ?_⟩,
      I.bs, Nat.le_trans I.ok.bsz I.sz, fun b o e hm => ?_, fstk, I.stack, I.stkFree⟩, rfl, hb, L2.Un.kept hk, ⟨m0, hns, fun i x v e1 e2 e3 => ?_⟩, fun x c e => ?_, I.hok.fresh (Nat.le_refl _), fun x c e => I.freeC x c (kc x c e), fun p hp => ?_, I.hok.kept hk, ?_⟩, fun b hb => ?_⟩
  · have hx' : scope.names.lookup x = some .cell ∨ scope.names.lookup x = some .free := hx
    rcases hx' with z | z
    · exact absurd rfl (S.cell _ (PySem.mem_of_lookup z))
    · obtain ⟨c, e, _⟩ := S.clo' (PySem.mem_of_lookup z) has
      exact ⟨c, e⟩
  · exact (hf b hb).2.2.2.2.1 x c (kc x c e)
  · obtain ⟨_, _, _, z, _⟩ := hf b hm
    rcases z with z | z
    · exact I.ok.noex b o e z
    · exact absurd (Nat.lt_of_lt_of_le (Heap.lt_size e) (Nat.le_trans I.ok.bsz z)) (Nat.lt_irrefl _)
  · obtain ⟨mi, ev⟩ := mskV_get e2
    have hfree := S.caps i mi x e1
    obtain ⟨m, _, hl⟩ := I.loc
    have hout := S.free _ (PySem.mem_of_lookup hfree) rfl
    obtain ⟨u, ru, lk⟩ := hl i x v e1 ev (hout.elim (fun z => .inr (.inl z)) fun z => .inr (.inr z))
    refine ⟨u, ru, .inr ⟨.inr hfree, ?_⟩⟩
    rcases lk with ⟨z, _⟩ | ⟨_, c, ec, cell⟩
    · have z' : X.env.scope.names.lookup x = some .local := z
      rcases hout with w | w
      · rw [z'] at w; cases w
      · rw [z'] at w; cases w
    · obtain ⟨c2, e3, e4⟩ := S.clo' (PySem.mem_of_lookup hfree) has
      rw [e4] at ec
      cases ec
      exact ⟨c, e3, let ⟨o, ho, hd⟩ := cell; ⟨o, hk _ _ ho, hd⟩⟩
  · obtain ⟨v, o, ho, hd⟩ := I.cell x c (kc x c e)
    exact ⟨v, o, hk _ _ ho, hd⟩
  · have hp' : p = (ga, go) := by
      have : p ∈ [(ga, go)] := by
        rcases List.mem_append.mp hp with z | z
        · exact z
        · simp at z
      exact List.mem_singleton.mp this
    subst hp'
    exact ⟨hgo, I.hok.fresh (Nat.le_of_lt hga), Nat.ne_of_gt hga, nstk _ (Nat.le_of_lt hga), hgd⟩
  · show (mskV σ cs).length = X.N.length
    rw [mskV_len]; exact I.len
  · obtain ⟨z1, z2, z3, z4, z5, z6⟩ := hf b hb
    refine ⟨z1, Nat.ne_of_lt (lts b hb), fstk b hb, .inl hb, fun x c e => z5 x c (kc x c e), fun p hp z => ?_⟩
    have : p ∈ [(ga, go)] := by
      rcases List.mem_append.mp hp with w | w
      · exact w
      · simp at w
    rw [List.mem_singleton.mp this] at z
    have := lts b hb
    rw [← z] at this
    exact absurd (Nat.lt_trans hga this) (Nat.lt_irrefl _)
end Ev


set_option Elab.async false
set_option linter.all false
set_option autoImplicit false
set_option maxRecDepth 100000
set_option maxHeartbeats 2000000
/-! GxD: all, any of a generator expression: the rule. -/
namespace Ev
open PySem PySem.Spec PyProof.Rows GenW
open L2 (V Hp HO Inv Turn It FpOk PE PI PG PTs TG TT TE TI VK Cx Room Gl frs cloFrom thn allBare_setGen)
open GxR (TabB TabG Tabbed)
/-- a generator that has not begun, in the state s -/
def Gmade (X : Cx) (pins : List (Addr × Obj)) (σ : L2.St) (al : Bool) (Q : Bool → Hp → Prop) (u : Value) (s : Shared) : Prop :=
  ∃ (Y : Cx) (τ : L2.St) (H : Hp) (a : Addr) (g n : Nat) (c : Code), u = .ref a ∧ Y.prog = X.prog ∧ Y.w = X.w ∧ Inv Y [] τ H s ∧ s.gens[g]? = some (.fresh c) ∧ (∀ H' s', Inv Y [] τ H' s' → s'.heap.IsGen a g) ∧
    (GenState.fresh c).Goes (model X.prog X.w) X.A.in1.in1 (GxR Y τ al Q) (GxY Y τ al Q) n (.send .none) (s.setGen g .running) ∧ ∀ H' s', Inv Y [] τ H' s' → Inv X pins σ H' s'
/-- all(elt for target in iter if ..), any(..) -/
def tGA (al : Bool) (P : Addr) (wi : TI) (gt : TG) (tt : TT) (te : TE) (cs : List Nat) : TE := fun σ H Q => wi σ H fun J H1 => TabG H1 P ∧ ∀ H2, Tabbed P H1 H2 →
  ∃ W : Nat → Nat → Hp → Prop, (∃ m, W 0 m H2) ∧ GxW al J (mskV σ cs) gt tt te (fun b H3 => Q (.bl b) H3) W
section
variable {X : Cx} {tg iter elt : Expr} {ifs : List Expr} {scope : Scope} {cs : List Nat} {gpos pos p : Pos} {wi : TI} {gt : TG} {tt : TT} {te : TE} {al : Bool} {k : Nat} {c P : Addr}
theorem gx_made {pins : List (Addr × Obj)} {σ : L2.St} {H : Hp} {s : Shared} {Q : Bool → Hp → Prop} {Qf : Value → Shared → Prop} (hr : Room (k + 1) X.A) (TB : TabB X.base X.mg c P) (hcode : X.env.code = .ref c) (S : GSc X scope cs) (hi : PI X tg iter wi)
    (hg : ∀ (s : Shared) (H : Hp) (code : Value) (fp : List Addr) (pn : List (Addr × Obj)), PG (gx X X.A.in1.in1 (genEnv scope (cloFrom X.env.cells scope.names []) s.heap.objs.size code builtinsNs X.env) s H fp pn) tg gt)
    (ht : ∀ (s : Shared) (H : Hp) (code : Value) (fp : List Addr) (pn : List (Addr × Obj)), PTs (gx X X.A.in1.in1 (genEnv scope (cloFrom X.env.cells scope.names []) s.heap.objs.size code builtinsNs X.env) s H fp pn) ifs tt)
    (he : ∀ (s : Shared) (H : Hp) (code : Value) (fp : List Addr) (pn : List (Addr × Obj)), PE (gx X X.A.in1.in1 (genEnv scope (cloFrom X.env.cells scope.names []) s.heap.objs.size code builtinsNs X.env) s H fp pn) elt te)
    (hs : ∀ v, genFold iter X.env v = pure v) (I : Inv X pins σ H s)
    (h : wi σ H fun J H1 => TabG H1 P ∧ ∀ H2, Tabbed P H1 H2 → ∃ W : Nat → Nat → Hp → Prop, (∃ m, W 0 m H2) ∧ GxW al J (mskV σ cs) gt tt te Q W)
    (hQ : ∀ u s', Gmade X pins σ al Q u s' → Qf u s') :
    wpAny (model X.prog X.w) X.A (eval (.GeneratorExp elt [⟨tg, iter, ifs, 0⟩] scope gpos) X.env) Qf X.xe s := by
  refine wpAny_GeneratorExp_make S.co (L2.closure_ok (S.has I)) S.cell S.dot S.kind (by have := hr.dp; omega) ?_ hs
  refine thn (hi.run pins s σ H _ I h) fun xv s1 hx => thn hx fun itv s2 hit => ?_
  obtain ⟨it, fp, tn, J, H1, rfl, I2, T, t0, hf, ⟨ps, hP, htr⟩, hW⟩ := hit
  refine ⟨I2.nolimit, ?_⟩
  have hPs : s2.heap.get? P = some { cls := .none, data := .fields ps } := I2.hok P _ hP
  have cd : PySem.W.CodeHd s2.heap c P := TB.code.keeps fun b u e => I2.bk b u e
  have goes : ∀ (code : Value) (h3 : Heap) (tk : Nat) (qs : Array Value), Heap.ExtBut P s2.heap h3 → h3.get? P = some { cls := .none, data := .fields qs } → (∃ more, qs = ps ++ more) → TriplesOk qs.toList →
      wpAny (model X.prog X.w) X.A (builtinsFor X.env.globals X.env.builtins) (fun bi s4 => ∀ h', h'.Ns s4.heap.objs.size (fun y => if y = ".0" then some (.ref it) else none) → Heap.SameBut s4.heap.objs.size (s4.heap.push { cls := .type "frame", data := .dict #[] }) h' →
        Qf (.ref h'.objs.size) { s4 with
            gens := s4.gens.push (.fresh (.compStart (.GeneratorExp elt [⟨tg, iter, ifs, 0⟩] scope gpos) 0 (.ref it) .none (genEnv scope (cloFrom X.env.cells scope.names []) s4.heap.objs.size code bi X.env))),
            toks := s4.toks + 1 + 1 + 1,
            heap := h'.push { cls := .type "generator", data := .fields #[.int s4.gens.size 0, .str "<genexpr>" (s4.toks + 1), .str (X.env.qual ++ "<genexpr>") (s4.toks + 1 + 1)] } }) X.xe { s2 with heap := h3, toks := tk } := by
    intro code h3 tk qs hx hq hmore htq
    obtain ⟨more, em⟩ := hmore
    have keep3 : ∀ b u, b ≠ P → s2.heap.get? b = some u → h3.get? b = some u := fun b u hb e => hx b u hb e
    have I3 : Inv X pins σ (L2.upd H1 P (.tbl (ps ++ more))) { s2 with heap := h3, toks := tk } :=
      GxR.inv_tab (more := more) (h' := h3) (g' := s2.gens) (d' := s2.drawn) (t' := tk) I2 hP keep3 (by rw [← em]; exact hq) I2.bare
    obtain ⟨bm, ob, e1, e2, e3, e4, e5, e6, e7, e8⟩ := TB.bm
    refine wpAny_builtinsFor (m := X.mg) (by rw [I3.ok.glob]; exact I3.mod.glob.keeps I3.bk) e1 e2 (I3.bk _ _ e5) e6 e7 e8 ?_
    intro h' hns hsb
    have hPn : ∀ b ∈ fp, b ≠ P := fun b hb z => by
      have := (hf b hb).1
      rw [z, hP] at this
      cases this
    have hf3 : ∀ b ∈ fp, FpOk X pins (L2.upd H1 P (.tbl (ps ++ more))) b := fun b hb => by
      obtain ⟨z1, z2⟩ := hf b hb
      exact ⟨by rw [L2.upd_ne (hPn b hb)]; exact z1, z2⟩
    have ob3 := T.obj 0 s2.heap t0
    have th3 : ∀ b ∈ fp, ∃ o, h3.get? b = some o := fun b hb => let ⟨o, e, _⟩ := ob3 b hb; ⟨o, keep3 b o (hPn b hb) e⟩
    have sz : h'.objs.size = h3.objs.size + 1 := by rw [hsb.1, Heap.size_push]
    have kh : ∀ b o, h3.get? b = some o → h'.get? b = some o := fun b o e => (hsb.2 b (Nat.ne_of_lt (Heap.lt_size e))).trans (Heap.get?_push_of_some _ e)
    obtain ⟨m, hw0⟩ : ∃ m, ∃ W : Nat → Nat → Hp → Prop, W 0 m (L2.upd H1 P (.tbl (ps ++ more))) ∧ GxW al J (mskV σ cs) gt tt te Q W := by
      obtain ⟨W, ⟨m, h0⟩, hW2⟩ := hW (L2.upd H1 P (.tbl (ps ++ more))) ⟨⟨ps ++ more, L2.upd_same, by rw [← em]; exact htq⟩, fun b hb => L2.upd_ne hb⟩
      exact ⟨m, W, h0, hW2⟩
    obtain ⟨W, h0, hW2⟩ := hw0
    have main : ∀ (go : Obj) (tk5 : Nat), go.cls = .type "generator" → (∃ nm qn, go.data = .fields #[.int s2.gens.size 0, nm, qn]) → go.slots = #[] → (∀ h : Heap, (h.push go).get? h.objs.size = some go) →
        Qf (.ref h'.objs.size) { s2 with
            gens := s2.gens.push (.fresh (.compStart (.GeneratorExp elt [⟨tg, iter, ifs, 0⟩] scope gpos) 0 (.ref it) .none (genEnv scope (cloFrom X.env.cells scope.names []) h3.objs.size code builtinsNs X.env))),
            toks := tk5, heap := h'.push go } := by
      intro go tk5 g1 ⟨nm, qn, g2⟩ g3 g4
      have kk : ∀ b o, h3.get? b = some o → (h'.push go).get? b = some o := fun b o e => Heap.get?_push_of_some _ (kh b o e)
      obtain ⟨Ig, hfg⟩ := gx_start (fp := fp) (code := code) (m0 := fun y => if y = ".0" then some (.ref it) else none) (h5 := h'.push go) (go := go) (ga := h'.objs.size)
        (gens := s2.gens.push (.fresh (.compStart (.GeneratorExp elt [⟨tg, iter, ifs, 0⟩] scope gpos) 0 (.ref it) .none (genEnv scope (cloFrom X.env.cells scope.names []) h3.objs.size code builtinsNs X.env)))) (tk := tk5) (A := X.A.in1.in1)
        S I3 hr.hd I3.ok.frames hf3 th3 (hns.push _) kk (by rw [sz]; exact Nat.lt_succ_self _) (g4 _) (fun v z => by rw [g2] at z; cases z) (AllBare.push I2.bare rfl)
      have t5 : tn 0 (h'.push go) := T.keep 0 _ _ t0 fun b hb o e => kk b o (keep3 b o (hPn b hb) e)
      refine hQ _ _ ⟨gx X X.A.in1.in1 (genEnv scope (cloFrom X.env.cells scope.names []) h3.objs.size code builtinsNs X.env) { s2 with heap := h3, toks := tk } (L2.upd H1 P (.tbl (ps ++ more))) fp [(h'.objs.size, go)], mskV σ cs, L2.upd H1 P (.tbl (ps ++ more)), _, s2.gens.size, m + 1, _, rfl, rfl, rfl, Ig, Array.getElem?_push_size .., fun H' s' I' => ?_, ⟨rfl, ?_⟩, fun H' s' I' => ?_⟩
      · exact ⟨go, nm, qn, (I'.pin (h'.objs.size, go) (List.mem_append_left _ (List.mem_singleton.mpr rfl))).1, g1, g2, g3⟩
      · have hh' : (X.A.in1.in1.over (.compStart (.GeneratorExp elt [⟨tg, iter, ifs, 0⟩] scope gpos) 0 (.ref it) .none (genEnv scope (cloFrom X.env.cells scope.names []) h3.objs.size code builtinsNs X.env)) []).handled = none := hr.hd
        have loop := seg_gx (X := gx X X.A.in1.in1 (genEnv scope (cloFrom X.env.cells scope.names []) h3.objs.size code builtinsNs X.env) { s2 with heap := h3, toks := tk } (L2.upd H1 P (.tbl (ps ++ more))) fp [(h'.objs.size, go)])
          (A := X.A.in1.in1) (iter := iter) (scope := scope) (pos := gpos) (it := it) rfl rfl T (hg { s2 with heap := h3, toks := tk } _ code fp _) (ht { s2 with heap := h3, toks := tk } _ code fp _) (he { s2 with heap := h3, toks := tk } _ code fp _) (fun _ _ z => z) S.co hW2
        generalize hS5 : ({ s2 with
            gens := s2.gens.push (.fresh (.compStart (.GeneratorExp elt [⟨tg, iter, ifs, 0⟩] scope gpos) 0 (.ref it) .none (genEnv scope (cloFrom X.env.cells scope.names []) h3.objs.size code builtinsNs X.env))),
            toks := tk5, heap := h'.push go } : Shared) = s5 at Ig ⊢
        have k5 : Kept s5 (s5.setGen s2.gens.size .running) := ⟨rfl, allBare_setGen Ig.bare rfl, fun _ _ e => e⟩
        have t6 : tn 0 (s5.setGen s2.gens.size .running).heap := by
          have : s5.heap = h'.push go := by rw [← hS5]
          show tn 0 s5.heap
          rw [this]; exact t5
        have lp := loop m 0 (s5.setGen s2.gens.size .running) (s5.setGen s2.gens.size .running) _ (m + 1) (k5.inv Ig) t6 hfg h0 (Nat.lt_succ_self m)
        show Seg _ X.A.in1.in1 _ _ _ _ _ ((compStart (.GeneratorExp elt [⟨tg, iter, ifs, 0⟩] scope gpos) 0 (.ref it) .none (genEnv scope (cloFrom X.env.cells scope.names []) h3.objs.size code builtinsNs X.env)).onRaise (leaving (genEnv scope (cloFrom X.env.cells scope.names []) h3.objs.size code builtinsNs X.env))) [] _
        unfold compStart
        rw [Sem.onRaise_eq_wrap]
        show Seg _ X.A.in1.in1 _ _ _ _ _ ((ask >>= _).wrap _ _ _ _) [] _
        refine seg_bind_wrap (wpAny_askSetting ?_)
        split
        · exact seg_again rfl lp
        · refine seg_bind_wrap (wpAny_rule ?_)
          show Seg _ X.A.in1.in1 _ _ _ _ _ ((standAt iter.pos >>= _).wrap _ _ _ _) [] _
          exact seg_bind_wrap (wpAny_standAt (seg_bind_wrap (T.self _ 0 _ _ _ t6 (seg_again rfl lp))))
      · exact I3.call' (ch := fp) I'.os I'.base I'.hok I'.bare fun b hb => by
          obtain ⟨_, z2, _, z4, z5, z6⟩ := hf3 b hb
          exact ⟨z4, z2, z5, z6⟩
    exact main _ _ rfl ⟨_, _, rfl⟩ rfl fun h => Heap.get?_push_size _ rfl
  cases hfnd : codeAmong gpos ps.toList with
  | none =>
    refine wpAny_genexprCodeX hcode (cd.code hPs htr) (cd.tab hPs) hfnd fun c' h3 tk hx _ _ hco _ htab _ => ?_
    obtain ⟨o1, vs, f1, tf, fl, tgg, inF, tx, tt', op, _, _, _, _, _, _, _, _, _, htr', _⟩ := hco
    exact goes _ h3 tk _ hx htab.2 ⟨_, rfl⟩ htr'
  | some cv =>
    refine wpAny_genexprCode_hit hcode (cd.code hPs htr) hfnd ?_
    exact goes cv s2.heap s2.toks ps (Heap.ExtBut.refl _ _) hPs ⟨#[], by simp⟩ htr

theorem pe_gall (hr : Room (k + 1) X.A) (hn : Gl X "all") (hm : X.mg "all" = none) (TB : TabB X.base X.mg c P) (hcode : X.env.code = .ref c) (S : GSc X scope cs) (hi : PI X tg iter wi)
    (hg : ∀ (s : Shared) (H : Hp) (code : Value) (fp : List Addr) (pn : List (Addr × Obj)), PG (gx X X.A.in1.in1 (genEnv scope (cloFrom X.env.cells scope.names []) s.heap.objs.size code builtinsNs X.env) s H fp pn) tg gt)
    (ht : ∀ (s : Shared) (H : Hp) (code : Value) (fp : List Addr) (pn : List (Addr × Obj)), PTs (gx X X.A.in1.in1 (genEnv scope (cloFrom X.env.cells scope.names []) s.heap.objs.size code builtinsNs X.env) s H fp pn) ifs tt)
    (he : ∀ (s : Shared) (H : Hp) (code : Value) (fp : List Addr) (pn : List (Addr × Obj)), PE (gx X X.A.in1.in1 (genEnv scope (cloFrom X.env.cells scope.names []) s.heap.objs.size code builtinsNs X.env) s H fp pn) elt te)
    (hs : ∀ v, genFold iter X.env v = pure v) : PE X (.Call (.Name "all" p) [.GeneratorExp elt [⟨tg, iter, ifs, 0⟩] scope gpos] [] pos) (tGA true P wi gt tt te cs) := by
  refine ⟨fun pins s σ H Q I h => ?_⟩
  have st : starEach [.GeneratorExp elt [⟨tg, iter, ifs, 0⟩] scope gpos] X.env = (false, eval (.GeneratorExp elt [⟨tg, iter, ifs, 0⟩] scope gpos) X.env) :: starEach [] X.env := rfl
  refine wpAny_Call_Name_kw (L2.ld_blt I hn hm boot_all (PyProof.Rows.callWith_builtin1 ?_ st (by rfl)))
  rw [st]
  show wpAny _ _ (spliced ((false, eval (.GeneratorExp elt [⟨tg, iter, ifs, 0⟩] scope gpos) X.env) :: backTo pos (starEach [] X.env))) _ _ s
  refine Calls.spliced_cons (gx_made (al := true) (Q := fun b H3 => Q (.bl b) H3) hr TB hcode S hi hg ht he hs I h fun u s5 hM => ?_)
  obtain ⟨Y, τ, H5, a, g, n, c5, rfl, hP, hw, I5, hgs, hgen, hgo, hback⟩ := hM
  refine Calls.spliced_nil (call_function_tree F.kind_all F.plain_all F.entry_all (F.args_all1 _) ?_)
  unfold Builtin.«all»
  refine wpAny_bind (m := oneArg "all" _) (wpAny_pure ?_)
  refine wpAny_bind (wpAny_pyIter_gen (hgen _ _ I5) (wpAny_pure ⟨plainId_quiet F.plain_all_loop _, ?_⟩))
  rw [← hP, ← hw] at hgo ⊢
  refine all_gx (X := Y) (A := X.A) (σm := τ) (Q := fun b H3 => Q (.bl b) H3) hr.hd (by have := hr.dp; omega) hgen (fun b s' H' I' hq => ?_) n s5 H5 _ I5 hgs hgo
  exact ⟨.bl b, H', hback H' s' I', rfl, hq⟩
theorem pe_gany (hr : Room (k + 1) X.A) (hn : Gl X "any") (hm : X.mg "any" = none) (TB : TabB X.base X.mg c P) (hcode : X.env.code = .ref c) (S : GSc X scope cs) (hi : PI X tg iter wi)
    (hg : ∀ (s : Shared) (H : Hp) (code : Value) (fp : List Addr) (pn : List (Addr × Obj)), PG (gx X X.A.in1.in1 (genEnv scope (cloFrom X.env.cells scope.names []) s.heap.objs.size code builtinsNs X.env) s H fp pn) tg gt)
    (ht : ∀ (s : Shared) (H : Hp) (code : Value) (fp : List Addr) (pn : List (Addr × Obj)), PTs (gx X X.A.in1.in1 (genEnv scope (cloFrom X.env.cells scope.names []) s.heap.objs.size code builtinsNs X.env) s H fp pn) ifs tt)
    (he : ∀ (s : Shared) (H : Hp) (code : Value) (fp : List Addr) (pn : List (Addr × Obj)), PE (gx X X.A.in1.in1 (genEnv scope (cloFrom X.env.cells scope.names []) s.heap.objs.size code builtinsNs X.env) s H fp pn) elt te)
    (hs : ∀ v, genFold iter X.env v = pure v) : PE X (.Call (.Name "any" p) [.GeneratorExp elt [⟨tg, iter, ifs, 0⟩] scope gpos] [] pos) (tGA false P wi gt tt te cs) := by
  refine ⟨fun pins s σ H Q I h => ?_⟩
  have st : starEach [.GeneratorExp elt [⟨tg, iter, ifs, 0⟩] scope gpos] X.env = (false, eval (.GeneratorExp elt [⟨tg, iter, ifs, 0⟩] scope gpos) X.env) :: starEach [] X.env := rfl
  refine wpAny_Call_Name_kw (L2.ld_blt I hn hm boot_any (PyProof.Rows.callWith_builtin1 ?_ st (by rfl)))
  rw [st]
  show wpAny _ _ (spliced ((false, eval (.GeneratorExp elt [⟨tg, iter, ifs, 0⟩] scope gpos) X.env) :: backTo pos (starEach [] X.env))) _ _ s
  refine Calls.spliced_cons (gx_made (al := false) (Q := fun b H3 => Q (.bl b) H3) hr TB hcode S hi hg ht he hs I h fun u s5 hM => ?_)
  obtain ⟨Y, τ, H5, a, g, n, c5, rfl, hP, hw, I5, hgs, hgen, hgo, hback⟩ := hM
  refine Calls.spliced_nil (call_function_tree F.kind_any F.plain_any F.entry_any (F.args_any1 _) ?_)
  unfold Builtin.«any»
  refine wpAny_bind (m := oneArg "any" _) (wpAny_pure ?_)
  refine wpAny_bind (wpAny_pyIter_gen (hgen _ _ I5) (wpAny_pure ⟨plainId_quiet F.plain_any_loop _, ?_⟩))
  rw [← hP, ← hw] at hgo ⊢
  refine any_gx (X := Y) (A := X.A) (σm := τ) (Q := fun b H3 => Q (.bl b) H3) hr.hd (by have := hr.dp; omega) hgen (fun b s' H' I' hq => ?_) n s5 H5 _ I5 hgs hgo
  exact ⟨.bl b, H', hback H' s' I', rfl, hq⟩
end
end Ev


set_option Elab.async false
set_option linter.all false
set_option maxRecDepth 100000
set_option maxHeartbeats 1000000
/-! EvI: displays of dicts, get, pop. -/
namespace Ev
open PySem
open L2 (V Hp HO SqL SqT Rd upd upd_same upd_ne Same TE VK PE PT PW PA XK Sp FnOk Binds Room CX0 E0 Cx OpR CallR R2 PPs kV mergeK putK valV)

/-! ### the evaluator's dicts are the heap's -/
theorem key_rep {K : PySem.W.Frag} {ρ : List Addr} {F : Addr → Prop} {H : Hp} {d : D} {v : V} {k : Key} (h : Rep K ρ F H d v) (e : keyD d = some k) : v = kV k := by
  cases d <;> first | (cases e; done) | skip
  all_goals
    simp only [keyD, Option.some.injEq] at e
    subst e
    simp only [Rep] at h
    exact h
def flatP : List (V × V) → List V
  | [] => []
  | p :: r => p.1 :: p.2 :: flatP r
theorem split_rep {K : PySem.W.Frag} {ρ : List Addr} {F : Addr → Prop} {H : Hp} : ∀ {l : List D} {ps : List (V × V)} {ks : List Key} {ds : List D}, Reps K ρ F H l (flatP ps) → splitD l = some (ks, ds) →
    ∃ kvs : List (Key × V), ps = kvs.map (fun kv => (kV kv.1, kv.2)) ∧ kvs.map (·.1) = ks ∧ Reps K ρ F H ds (kvs.map (·.2))
  | [], ps, ks, ds, h, e => by
    simp only [splitD, Option.some.injEq, Prod.mk.injEq] at e
    simp only [Reps] at h
    obtain ⟨rfl, rfl⟩ := e
    cases ps with
    | nil => exact ⟨[], rfl, rfl, Reps.nil⟩
    | cons p r => simp [flatP] at h
  | [x], ps, ks, ds, h, e => by simp only [splitD] at e; cases e
  | x :: y :: l, ps, ks, ds, h, e => by
    cases ps with
    | nil => simp only [flatP, Reps] at h; obtain ⟨_, _, z, _⟩ := h; cases z
    | cons p r =>
      simp only [flatP, Reps] at h
      obtain ⟨v, u, z1, h1, v2, u2, z2, h2, h3⟩ := h
      cases z1
      cases z2
      simp only [splitD] at e
      cases q : keyD x with
      | none => rw [q] at e; cases e
      | some k =>
        rw [q] at e
        simp only [Option.bind_some] at e
        cases q2 : splitD l with
        | none => rw [q2] at e; cases e
        | some t =>
          obtain ⟨ks1, ds1⟩ := t
          rw [q2] at e
          simp only [Option.map_some, Option.some.injEq, Prod.mk.injEq] at e
          obtain ⟨rfl, rfl⟩ := e
          obtain ⟨kvs, e1, e2, e3⟩ := split_rep h3 q2
          refine ⟨(k, p.2) :: kvs, ?_, ?_, ?_⟩
          · simp only [List.map_cons, ← e1, ← key_rep h1 q]
          · simp only [List.map_cons, e2]
          · simp only [List.map_cons]
            exact Reps.cons h2 e3
theorem merge_new : ∀ (more acc : List (Key × V)), (acc ++ more).map (·.1) |>.Nodup → mergeK acc more = acc ++ more
  | [], acc, _ => by simp [mergeK]
  | p :: r, acc, h => by
    have hp : (acc.any fun kv => decide (kv.1 = p.1)) = false := by
      rw [List.any_eq_false]
      intro q hq e
      have e' : q.1 = p.1 := of_decide_eq_true e
      rw [List.map_append, List.nodup_append] at h
      exact h.2.2 _ (List.mem_map_of_mem hq) _ (List.mem_map_of_mem (List.mem_cons_self (a := p) (l := r))) e'
    have : mergeK acc (p :: r) = mergeK (acc ++ [(p.1, p.2)]) r := by
      show mergeK (putK acc p.1 p.2) r = _
      unfold putK
      rw [hp]
      rfl
    rw [this, merge_new r (acc ++ [(p.1, p.2)]) (by simpa using h)]
    simp
theorem lk_rep {K : PySem.W.Frag} {ρ : List Addr} {F : Addr → Prop} {H : Hp} (k : Key) : ∀ {kvs : List (Key × V)} {ds : List D}, Reps K ρ F H ds (kvs.map (·.2)) →
    (∃ d v, lkD (kvs.map (·.1)) ds k = some d ∧ valV kvs k = some v ∧ Rep K ρ F H d v) ∨ (lkD (kvs.map (·.1)) ds k = none ∧ valV kvs k = none)
  | [], ds, h => .inr ⟨by cases ds <;> rfl, rfl⟩
  | p :: r, ds, h => by
    cases ds with
    | nil => simp only [Reps] at h; cases h
    | cons d ds =>
      simp only [List.map_cons, Reps] at h
      obtain ⟨v, u, z, h1, h2⟩ := h
      cases z
      by_cases e : p.1 = k
      · refine .inl ⟨d, p.2, ?_, L2.valV_pos e, h1⟩
        simp only [List.map_cons, lkD, if_pos e]
      · rw [L2.valV_neg e]
        simp only [List.map_cons, lkD, if_neg e]
        exact lk_rep k h2

/-! ### the pairs of a display -/
def SPs (g : Gd) (c : Cc) (ks : List (Option Expr)) (vs : List Expr) (ir : Es) : Prop := ∃ trs : List (TE × TE), (∀ X, XOk g c X → ∀ pos, PPs X pos ks vs trs) ∧
  ∀ b σV ρ F H s Q, Rl g.K g.Tb b σV ρ F H s → WG g.K g.Tb b σV ρ F H (fun ρ F H _ l ps => Reps g.K ρ F H l (flatP ps)) Q (evEs g.C g.D ir s) → L2.tPairs trs σV H Q
section
variable {g : Gd} {c : Cc} {pos : Pos} {e e2 e3 : Expr} {i i2 i3 : E}
theorem sps_nil : SPs g c [] [] .nil := ⟨[], fun _ _ _ => L2.pps_nil, fun b σV ρ F H s Q rl h => by
  simp only [evEs] at h
  exact h.fin rl Reps.nil⟩
theorem sps_cons {ks : List (Option Expr)} {vs : List Expr} {is : Es} (ha : SE g c e i) (hb : SE g c e2 i2) (hs : SPs g c ks vs is) : SPs g c (some e :: ks) (e2 :: vs) (.cons i (.cons i2 is)) := by
  obtain ⟨t, h1, h2⟩ := ha
  obtain ⟨t', h3, h4⟩ := hb
  obtain ⟨ts, h5, h6⟩ := hs
  refine ⟨(t, t') :: ts, fun X hX p => L2.pps_cons (h1 X hX) (h3 X hX) (h5 X hX p), fun b σV ρ F H s Q rl h => ?_⟩
  simp only [evEs, b2_assoc] at h
  show t σV H fun x H1 => t' σV H1 fun y H2 => L2.tPairs ts σV H2 fun ps H3 => Q ((x, y) :: ps) H3
  refine h.step (T := fun Q' => t σV H Q') (fun Q' q => h2 _ _ _ _ _ _ _ rl q) fun x s1 v ρ1 F1 H1 _ e1 r1 p1 q1 => ?_
  refine q1.step (T := fun Q' => t' σV H1 Q') (fun Q' q => h4 _ _ _ _ _ _ _ r1 q) fun y s2 u ρ2 F2 H2 _ e2 r2 p2 q2 => ?_
  refine q2.part (T := fun Q' => L2.tPairs ts σV H2 Q') (fun Q' q => h6 _ _ _ _ _ _ _ r2 q) fun xs s3 ps ρ3 F3 H3 _ e3 r3 p3 q3 => ?_
  have q4 : WG g.K g.Tb b σV ρ3 F3 H3 (fun ρ F H _ l ps => Reps g.K ρ F H l (flatP ps)) Q (.ok (x.fz :: y.fz :: xs, s3)) := q3
  exact q4.fin r3 (Reps.cons (Rep.mono ((e2.trans e3).toS r1) _ _ p1) (Reps.cons (Rep.mono (e3.toS r2) _ _ p2) p3))
theorem se_dsp {ks : List (Option Expr)} {vs : List Expr} {is : Es} (hall : ks.all (·.isSome) = true) (hl : ks.length = vs.length) (h0 : ks ≠ []) (h15 : ks.length ≤ 15) (hs : SPs g c ks vs is) : SE g c (.Dict ks vs pos) (.dsp is) := by
  obtain ⟨ts, h1, h2⟩ := hs
  refine ⟨L2.tDisp ts, fun X hX => L2.pe_disp (h1 X hX pos) hall hl h0 h15, fun b σV ρ F H s Q rl h => ?_⟩
  simp only [evE] at h
  obtain ⟨l, s1, z, h3⟩ := b2_ok h
  obtain ⟨d, ed, h4⟩ := h3.opt
  intro p hp
  obtain ⟨f1, f2, f3, f4, f5⟩ := rl.free hp
  refine h2 (b.and p) σV ρ F (upd H p (.dK [])) s _ (rl.guard hp id) (WG.of z fun ps ρ1 F1 H1 x1 r1 t1 => ?_)
  have hp1 : H1 p = some (.dK []) := x1.all _ _ upd_same f2 id
  refine ⟨hp1, ?_⟩
  unfold dspD at ed
  cases q : splitD l with
  | none => rw [q] at ed; cases ed
  | some t =>
    obtain ⟨kk, dd⟩ := t
    rw [q] at ed
    simp only [Option.bind_some] at ed
    split at ed
    · rename_i hz
      cases ed
      obtain ⟨kvs, e1, e2, e3⟩ := split_rep t1 q
      have hlen : kvs.length = kk.length := by rw [← e2]; simp
      refine ⟨kvs, e1, by rw [hlen]; exact hz.2.1, ?_⟩
      have hm : mergeK [] kvs = kvs := by rw [merge_new kvs [] (by simp only [List.nil_append, e2]; exact hz.1)]; rfl
      rw [hm]
      have ch : ∀ u, H1 p = some u → Chg u := fun u e => by rw [hp1] at e; cases e; trivial
      have r2 := (r1.updP (p := p) (o := .dK kvs) (.inr rfl) f3 ch id).unguard
      obtain ⟨n1, n2, n3⟩ := r1.guarded
      have r3 := r2.share (a := p) ⟨.dK kvs, upd_same, id⟩ n2 f3 f4 n3
      have xu : ExS ρ1 F1 H1 ρ1 F1 (upd H1 p (.dK kvs)) := exS_upd n1 ch
      refine h4 (.ref p) ρ1 (fun a => F1 a ∨ a = p) _ (((ExE.same (same_upd hp)).trans x1).updNew hp |>.trans (ExE.more fun _ => .inl)) r3 ?_
      simp only [RepR, Rep]
      exact ⟨p, kvs, rfl, .inr rfl, upd_same, e2, Reps.mono (xu.trans (ExS.more fun _ => .inl)) _ _ e3⟩
    · cases ed

/-! ### methods -/
theorem base_ok {o : Expr} {m : Str} {env : Env} {w : Sem Value} (h : baseOk o = true) : attributeBase o m env w = w := by
  cases o <;> first | rfl | skip
  rename_i f as ks p
  cases f <;> first | rfl | skip
  cases as <;> first | rfl | skip
  cases ks <;> first | rfl | skip
  rename_i f q
  unfold baseOk at h
  simp only [Bool.not_eq_true', beq_eq_false_iff_ne] at h
  unfold attributeBase
  have h2 : (f != ("super" : Str)) = true := by simp [h]
  dsimp only
  rw [h2]
  simp
theorem dic_at {K : PySem.W.Frag} {ρ : List Addr} {F : Addr → Prop} {H : Hp} {d : D} {v : V} (h : isDicD d = true) (p : RepI K ρ F H d v) : ∃ (a : Addr) (kvs : List (Key × V)), v = .ref a ∧ Rd H a (.dK kvs) := by
  cases d <;> first | (cases h; done) | skip
  obtain ⟨a, kvs, e, q, _⟩ := p
  exact ⟨a, kvs, e, .inl q⟩
theorem se_get2 {o k d : Expr} {ap cp : Pos} (hb : baseOk o = true) (hl : (ap.endLine == cp.line) = true) (hk : isStar k = false) (hd : isStar d = false) (ho : SE g c o i) (h1 : SE g c k i2) (h2 : SE g c d i3) :
    SE g c (.Call (.Attribute o "get" ap) [k, d] [] cp) (.get2 i i2 i3) := by
  obtain ⟨t, a1, a2⟩ := ho
  obtain ⟨t', a3, a4⟩ := h1
  obtain ⟨t2, a5, a6⟩ := h2
  refine ⟨L2.tDGet2 t t' t2, fun X hX => L2.pe_dget2 (by have := hX.room.un; omega) (a1 X hX) (a3 X hX) (a5 X hX) ⟨base_ok hb, ?_, hl, by rw [star_no hk, star_no hd]; rfl⟩, fun b σV ρ F H s Q rl h => ?_⟩
  · rw [star_no hk, star_no hd]; rfl
  simp only [evE] at h
  refine h.step (T := fun Q' => t σV H Q') (fun Q' q => a2 _ _ _ _ _ _ _ rl q) fun x s1 v ρ1 F1 H1 ex e1 r1 p1 q1 => ?_
  -- what is asked is a dict
  obtain ⟨hdic, q1⟩ := q1.ite
  have hI := drI r1 p1
  obtain ⟨a, kvs0, rfl, hrd⟩ := dic_at hdic hI
  refine ⟨a, rfl, .inl ⟨kvs0, hrd⟩, ?_⟩
  refine q1.step (T := fun Q' => t' σV H1 Q') (fun Q' q => a4 _ _ _ _ _ _ _ r1 q) fun y' s2' v2 ρ2 F2 H2 ey e2 r2 p6 q2 => ?_
  refine q2.step (T := fun Q' => t2 σV H2 Q') (fun Q' q => a6 _ _ _ _ _ _ _ r2 q) fun w' s3' v3 ρ3 F3 H3 ew e3 r3 p7 q3 => ?_
  obtain ⟨r', er', q4⟩ := q3.opt
  have x13 : ExS ρ1 F1 H1 ρ3 F3 H3 := (e2.trans e3).toS r1
  have hI3 := drI r3 (Rep.mono x13 _ _ p1)
  unfold getD2 at er'
  split at er'
  · rename_i ks ds exz
    rw [exz] at hI3
    obtain ⟨a', kvs, ea, rd, p4, p5⟩ := hI3
    cases ea
    cases ek : keyD y'.fz with
    | none => rw [ek] at er'; cases er'
    | some kk =>
      rw [ek] at er'
      simp only [Option.map_some, Option.some.injEq] at er'
      refine ⟨valV kvs kk, .inl ⟨kvs, kk, .inl rd, key_rep (Rep.mono (e3.toS r2) _ _ p6) ek, rfl⟩, ?_⟩
      subst er'
      rcases lk_rep kk p5 with ⟨d', v', l1, l2, l3⟩ | ⟨l1, l2⟩
      · rw [l2]
        rw [p4] at l1
        rw [l1] at q4
        exact q4.fin r3 l3
      · rw [l2]
        rw [p4] at l1
        rw [l1] at q4
        exact q4.fin r3 p7
  · cases er'
end
section
variable {K : PySem.W.Frag} {Tb : Addr → Prop} {b : Bx} {σV : L2.St} {ρ : List Addr} {F : Addr → Prop} {H : Hp} {s : S} {p : Addr} {n : Nat} {l : List D} {vs : List V}
theorem rho_ne (r : Rl K Tb b σV ρ F H s) {m n : Nat} {a p : Addr} (hp : ρ[n]? = some p) (ha : ρ[m]? = some a) (ne : m ≠ n) : a ≠ p := fun z => by
  rw [z] at ha
  obtain ⟨h1, e1⟩ := List.getElem?_eq_some_iff.mp hp
  obtain ⟨h2, e2⟩ := List.getElem?_eq_some_iff.mp ha
  exact ne ((List.getElem_inj r.nd).mp (e2.trans e1.symm))
theorem exE_setO {u0 u : HO} (hm : p ∈ ρ) (hl : H p = some u0) (nt : ¬ IsTb u0) : ExE ρ F H ρ F (upd H p u) :=
  ⟨fun _ _ h => h, fun _ h => h, fun a o h m _ => by rw [upd_ne (fun z => m (by rw [z]; exact hm))]; exact h, fun a o h t => by
    rw [upd_ne (fun z => by rw [z, hl] at h; cases h; exact nt t)]; exact ⟨o, h, t⟩, fun _ h => .inl h⟩
theorem exE_set {us : List V} (hm : p ∈ ρ) (hl : H p = some (.lst us)) : ExE ρ F H ρ F (upd H p (.lst vs)) := exE_setO hm hl id
/-- an object by number is changed -/
theorem Rl.setO (r : Rl K Tb b σV ρ F H s) (hp : ρ[n]? = some p) {u0 u : HO} {mo : MO} (hl : H p = some u0) (nt : ¬ IsTb u0) (h : ObRep K ρ F H mo u) (hn : n < s.M.length) : Rl K Tb b σV ρ F (upd H p u) { s with M := s.M.set n mo } := by
  have hm : p ∈ ρ := List.mem_of_getElem? hp
  have x : ExS ρ F H ρ F (upd H p u) := (exE_setO hm hl nt).toS r
  have keep : ∀ a o, H a = some o → a ≠ p → upd H p u a = some o := fun a o e z => by rw [upd_ne z]; exact e
  refine ⟨r.len, fun i d e => ?_, fun i l' e => ?_, r.apart, fun m l' e => ?_, by simp [r.ml], r.nd, r.rf, r.rn, fun a f => ?_, r.fn, fun a o q k t => ?_, fun a o q t => ?_, fun a q => ⟨(r.pt a q).1, ?_⟩, r.bp, fun P q => ?_⟩
  · obtain ⟨v, q, t⟩ := r.val i d e
    exact ⟨v, q, Rep.mono x _ _ t⟩
  · obtain ⟨a, ws, q, o⟩ := r.own i l' e
    exact ⟨a, ws, q, o.mono x (keep _ _ o.at_ fun z => o.nr (z ▸ hm)) o.nf o.nr⟩
  · rcases get_set e with ⟨rfl, z⟩ | ⟨ne, z⟩
    · subst z
      exact ⟨p, u, hp, upd_same, h.mono x⟩
    · obtain ⟨a, ws, q, t, w⟩ := r.mem m l' z
      exact ⟨a, ws, q, keep _ _ t (rho_ne r hp q (Ne.symm ne)), w.mono x⟩
  · obtain ⟨o, q, t⟩ := r.ft a f
    exact ⟨o, keep _ _ q fun z => (r.rf p hm).1 (z ▸ f), t⟩
  · refine keep _ _ (r.old a o q k t) fun z => ?_
    rcases r.rn p hm with w | w
    · exact k (z ▸ w)
    · rw [z, w] at q; cases q
  · obtain ⟨o1, q1, t1⟩ := r.oldT a o q t
    exact ⟨o1, keep _ _ q1 fun z => by rw [z, hl] at q1; cases q1; exact nt t1, t1⟩
  · obtain ⟨o, w, t⟩ := (r.pt a q).2
    exact ⟨o, keep _ _ w fun z => (r.rf p hm).2 (z ▸ q), t⟩
  · obtain ⟨ps, e, t⟩ := r.tab P q
    exact ⟨ps, keep _ _ e (fun z => by rw [z, hl] at e; cases e; exact nt trivial), t⟩
theorem Rl.setM (r : Rl K Tb b σV ρ F H s) (hp : ρ[n]? = some p) {us : List V} (hl : H p = some (.lst us)) (h : Reps K ρ F H l vs) (hn : n < s.M.length) : Rl K Tb b σV ρ F (upd H p (.lst vs)) { s with M := s.M.set n (.l l) } :=
  r.setO hp hl id ⟨vs, rfl, h⟩ hn
/-- the list that stands by number -/
theorem Rl.atL (r : Rl K Tb b σV ρ F H s) {a : Addr} {xs : List D} (hp : ρ[n]? = some a) (e : s.M[n]? = some (.l xs)) : ∃ us, H a = some (.lst us) ∧ Reps K ρ F H xs us := by
  obtain ⟨a', u, q1, q2, us, rfl, q3⟩ := r.mem n _ e
  rw [hp] at q1
  cases q1
  exact ⟨us, q2, q3⟩
end
section
variable {g : Gd} {c : Cc} {pos : Pos} {e e2 e3 : Expr} {i i2 i3 : E}
theorem tyl {K : PySem.W.Frag} {H : Hp} {a : Addr} {xs : List V} (h : H a = some (.lst xs)) : L2.tyV K "list" (.ref a) H := .inl ⟨rfl, _, .inl (.inl h)⟩
theorem se_pop0 {o : Expr} {ap cp p1 : Pos} {k : Nat} (hb : baseOk o = true) (hl : (ap.endLine == cp.line) = true) (ho : SE g c o i) : SE g c (.Call (.Attribute o "pop" ap) [.Constant (.int 0) k p1] [] cp) (.pop0 i) := by
  obtain ⟨t, a1, a2⟩ := ho
  refine ⟨L2.tBM g.K "list" L2.rPopAt t (L2.tCons (L2.tC (.int 0)) L2.tNil), fun X hX => ?_, fun b σV ρ F H s Q rl h => ?_⟩
  · rw [← hX.K]
    exact L2.pe_bm PySem.F.plainAttrs_list PySem.F.slot_list_pop PySem.F.type_list_pop L2.mt_popAt (a1 X hX) (L2.pa_cons L2.pe_int L2.pa_nil) (base_ok hb) (by rfl) hl (by rfl) (by rfl)
  · simp only [evE] at h
    refine h.step (T := fun Q' => t σV H Q') (fun Q' q => a2 _ _ _ _ _ _ _ rl q) fun x s1 v ρ1 F1 H1 ex e1 r1 p1 q1 => ?_
    split at q1
    · rename_i n exz
      rw [exz] at p1
      simp only [Rep] at p1
      obtain ⟨a, p2, rfl⟩ := p1
      split at q1
      · rename_i y ys em
        obtain ⟨vs, p4, p5⟩ := r1.atL p2 em
        simp only [Reps] at p5
        obtain ⟨v, us, rfl, p6, p7⟩ := p5
        have hm : a ∈ ρ1 := List.mem_of_getElem? p2
        refine ⟨tyl p4, a, _, 0, 0, v, rfl, rfl, p4, by decide, by decide, ?_, rfl, ?_⟩
        · simp [seqIndex?]
        · have x : ExS ρ1 F1 H1 ρ1 F1 (upd H1 a (.lst us)) := (exE_set hm p4).toS r1
          exact q1 v ρ1 F1 _ (exE_set hm p4) (r1.setM p2 p4 p7 (by rw [← r1.ml]; exact (List.getElem?_eq_some_iff.mp p2).1)) (Rep.mono x _ _ p6)
      · exact q1.elim
    · exact q1.elim
theorem se_popl {o : Expr} {ap cp : Pos} (hb : baseOk o = true) (hl : (ap.endLine == cp.line) = true) (ho : SE g c o i) : SE g c (.Call (.Attribute o "pop" ap) [] [] cp) (.popl i) := by
  obtain ⟨t, a1, a2⟩ := ho
  refine ⟨L2.tBM0 g.K "list" L2.rPop t, fun X hX => ?_, fun b σV ρ F H s Q rl h => ?_⟩
  · rw [← hX.K]
    exact L2.pe_bm0 PySem.F.plainAttrs_list PySem.F.slot_list_pop PySem.F.type_list_pop L2.mt_pop (a1 X hX) (base_ok hb) hl
  · simp only [evE] at h
    refine h.step (T := fun Q' => t σV H Q') (fun Q' q => a2 _ _ _ _ _ _ _ rl q) fun x s1 v ρ1 F1 H1 ex e1 r1 p1 q1 => ?_
    split at q1
    · rename_i n exz
      rw [exz] at p1
      simp only [Rep] at p1
      obtain ⟨a, p2, rfl⟩ := p1
      split at q1
      · rename_i l em
        split at q1
        · rename_i y ey
          obtain ⟨vs, p4, p5⟩ := r1.atL p2 em
          obtain ⟨v, ev, p6⟩ := p5.get ey
          have hm : a ∈ ρ1 := List.mem_of_getElem? p2
          have x : ExS ρ1 F1 H1 ρ1 F1 (upd H1 a (.lst vs.dropLast)) := (exE_set hm p4).toS r1
          have hd : Reps g.K ρ1 F1 H1 l.dropLast vs.dropLast := by
            rw [List.dropLast_eq_take, List.dropLast_eq_take, p5.length]
            exact p5.take _
          refine ⟨tyl p4, a, vs, v, rfl, rfl, p4, by rw [p5.length]; exact ev, ?_⟩
          exact q1 v ρ1 F1 _ (exE_set hm p4) (r1.setM p2 p4 hd (by rw [← r1.ml]; exact (List.getElem?_eq_some_iff.mp p2).1)) (Rep.mono x _ _ p6)
        · exact q1.elim
      · exact q1.elim
    · exact q1.elim
end
end Ev


set_option Elab.async false
set_option linter.all false
set_option maxRecDepth 100000
set_option maxHeartbeats 1000000
/-! EvJ: all, any of a generator expression. -/
namespace Ev
open PySem
open L2 (V Hp HO SqL SqT Rd upd upd_same upd_ne Same TE VK PE PT PW PA PI PG TG XK Sp FnOk Binds Room CX0 E0 Cx cloFrom)
section
variable {K : PySem.W.Frag} {Tb : Addr → Prop} {b b' : Bx} {σV σV' : L2.St} {ρ ρ' : List Addr} {F F' : Addr → Prop} {H H' : Hp} {s t : S} {P : Addr} {cs : List Nat}
theorem mskR_some {σ : List Rv} {i : Nat} {x : Rv} (h : (mskR cs σ)[i]? = some x) : x = .un ∨ (i ∈ cs ∧ σ[i]? = some x) := by
  unfold mskR at h
  rw [List.getElem?_mapIdx] at h
  cases e : σ[i]? with
  | none => rw [e] at h; cases h
  | some y =>
    rw [e] at h
    simp only [Option.map_some, Option.some.injEq] at h
    by_cases m : i ∈ cs
    · rw [if_pos m] at h; exact .inr ⟨m, by rw [h]⟩
    · rw [if_neg m] at h; exact .inl h.symm
theorem mskR_len {σ : List Rv} : (mskR cs σ).length = σ.length := by simp [mskR]
theorem mskV_in {σ : L2.St} {i : Nat} {v : V} (m : i ∈ cs) (h : σ[i]? = some (some v)) : (mskV σ cs)[i]? = some (some v) := by
  unfold mskV
  rw [List.getElem?_mapIdx, h]
  simp only [Option.map_some, if_pos m]
/-- the def's table has grown -/
theorem Rl.tabbed (r : Rl K Tb b σV ρ F H s) (hP : GxR.TabG H P) (h : GxR.Tabbed P H H') : Rl K Tb b σV ρ F H' s ∧ ExE ρ F H ρ F H' := by
  obtain ⟨ps, e, _⟩ := hP
  have keep : ∀ a o, H a = some o → ¬ IsTb o → H' a = some o := fun a o q t => by
    rw [h.2 a (fun z => by rw [z, e] at q; cases q; exact t trivial)]; exact q
  have keepT : ∀ a o, H a = some o → IsTb o → ∃ o', H' a = some o' ∧ IsTb o' := fun a o q t => by
    by_cases z : a = P
    · obtain ⟨qs, e2, _⟩ := h.1
      exact ⟨.tbl qs, by rw [z]; exact e2, trivial⟩
    · exact ⟨o, by rw [h.2 a z]; exact q, t⟩
  have x : ExE ρ F H ρ F H' := ⟨fun _ _ h => h, fun _ h => h, fun a o q _ t => keep a o q t, keepT, fun _ h => .inl h⟩
  have xs := x.toS r
  refine ⟨⟨r.len, fun i d e => (let ⟨v, q, p⟩ := r.val i d e; ⟨v, q, Rep.mono xs _ _ p⟩), fun i l e => (let ⟨a, vs, q, o⟩ := r.own i l e; ⟨a, vs, q, o.mono xs (keep _ _ o.at_ id) o.nf o.nr⟩), r.apart,
    fun n l e => (let ⟨a, vs, q, p, t⟩ := r.mem n l e; ⟨a, vs, q, keep _ _ p t.chg.2, t.mono xs⟩), r.ml, r.nd, r.rf, r.rn, fun a f => (let ⟨o, q, t⟩ := r.ft a f; ⟨o, keep _ _ q t, t⟩), r.fn,
    fun a o q n t => keep _ _ (r.old a o q n t) t, fun a o q t => (let ⟨o1, q1, t1⟩ := r.oldT a o q t; keepT a o1 q1 t1), fun a q => ⟨(r.pt a q).1, let ⟨o, w, t⟩ := (r.pt a q).2; ⟨o, keep _ _ w t, t⟩⟩, r.bp, fun Q q => ?_⟩, x⟩
  by_cases z : Q = P
  · rw [z]; exact h.1
  · obtain ⟨qs, e2, t2⟩ := r.tab Q q
    exact ⟨qs, by rw [h.2 Q z]; exact e2, t2⟩
/-- captured lists are shared -/
theorem Rl.shr (r : Rl K Tb b σV ρ F H s) : ∀ cs : List Nat, ∃ F', (∀ a, F a → F' a) ∧ Rl K Tb b σV ρ F' H { s with σ := Ev.shr cs s.σ }
  | [] => ⟨F, fun _ h => h, r⟩
  | i :: is => by
    obtain ⟨F1, m1, r1⟩ := Rl.shr r is
    simp only [Ev.shr]
    split
    · rename_i l e
      obtain ⟨a, F2, _, m2, r2, _⟩ := r1.read e
      exact ⟨F2, fun c h => m2 c (m1 c h), r2⟩
    · exact ⟨F1, m1, r1⟩
/-- the lists that the def's names have to themselves are not to be touched -/
def Bx.all (b : Bx) (σ : List Rv) (σV : L2.St) : Bx := { b with Pr := fun a => b.Pr a ∨ ∃ (i : Nat) (l : List D), σ[i]? = some (.mls l) ∧ σV[i]? = some (some (.ref a)) }
theorem noOwn_at {σ : List Rv} (no : noOwn σ cs = true) {i : Nat} {l : List D} (m : i ∈ cs) (h : σ[i]? = some (.mls l)) : False := by
  unfold noOwn at no
  rw [List.all_eq_true] at no
  have := no i m
  rw [List.getD_eq_getElem?_getD, h] at this
  cases this
theorem Rl.mask (r : Rl K Tb b σV ρ F H s) (no : noOwn s.σ cs = true) : Rl K Tb (b.all s.σ σV) (mskV σV cs) ρ F H { s with σ := mskR cs s.σ } := by
  refine ⟨by rw [mskV_len, mskR_len]; exact r.len, fun i d e => ?_, fun i l e => ?_, fun i j l l' a e1 => ?_, r.mem, r.ml, r.nd, fun a m => ⟨(r.rf a m).1, fun z => ?_⟩, r.rn, r.ft, r.fn, r.old, r.oldT, fun a z => ?_, r.bp, r.tab⟩
  · rcases mskR_some e with z | ⟨m, z⟩
    · cases z
    · obtain ⟨v, q, t⟩ := r.val i d z
      exact ⟨v, mskV_in m q, t⟩
  · rcases mskR_some e with z | ⟨m, z⟩
    · cases z
    · exact (noOwn_at no m z).elim
  · rcases mskR_some e1 with z | ⟨m, z⟩
    · cases z
    · exact (noOwn_at no m z).elim
  · rcases z with z | ⟨i, l, e1, e2⟩
    · exact (r.rf a m).2 z
    · obtain ⟨c, vs, q, o⟩ := r.own i l e1
      rw [q] at e2
      cases e2
      exact o.nr m
  · rcases z with z | ⟨i, l, e1, e2⟩
    · exact r.pt a z
    · obtain ⟨c, vs, q, o⟩ := r.own i l e1
      rw [q] at e2
      cases e2
      exact ⟨o.nf, _, o.at_, id⟩
/-- the next turn's slots -/
theorem Rl.again {τ : List Rv} {σm : L2.St} {ρ0 : List Addr} {F0 : Addr → Prop} {H0 : Hp} (r : Rl K Tb b σV ρ F H s) (r0 : Rl K Tb b σm ρ0 F0 H0 { t with σ := τ }) (x : ExS ρ0 F0 H0 ρ F H) (no : ∀ (i : Nat) l, τ[i]? ≠ some (.mls l)) : Rl K Tb b σm ρ F H { s with σ := τ } :=
  ⟨r0.len, fun i d e => let ⟨v, q, p⟩ := r0.val i d e; ⟨v, q, Rep.mono x _ _ p⟩, fun i l e => (no i l e).elim, fun i j l l' a e1 => (no i l e1).elim, r.mem, r.ml, r.nd, r.rf, r.rn, r.ft, r.fn, r.old, r.oldT, r.pt, r.bp, r.tab⟩
/-- behind the generator -/
theorem Rl.unmask {ρ0 : List Addr} {F0 : Addr → Prop} {H0 : Hp} {σ' : L2.St} (r0 : Rl K Tb b σV ρ0 F0 H0 t) (r : Rl K Tb (b.all t.σ σV) σ' ρ F H s) (x : ExE ρ0 F0 H0 ρ F H) : Rl K Tb b σV ρ F H { s with σ := t.σ } := by
  have xs := x.toS r0
  refine ⟨r0.len, fun i d e => (let ⟨v, q, p⟩ := r0.val i d e; ⟨v, q, Rep.mono xs _ _ p⟩), fun i l e => ?_, r0.apart, r.mem, r.ml, r.nd, fun a m => ⟨(r.rf a m).1, fun z => (r.rf a m).2 (.inl z)⟩, r.rn, r.ft, r.fn, r.old, r.oldT, fun a q => r.pt a (.inl q), r.bp, r.tab⟩
  obtain ⟨a, vs, q, o⟩ := r0.own i l e
  have pr : (b.all t.σ σV).Pr a := .inr ⟨i, l, e, q⟩
  exact ⟨a, vs, q, o.mono xs (x.all _ _ o.at_ o.nr id) (r.pt a pr).1 fun m => (r.rf a m).2 pr⟩
end
def gaStep (C : Calls) (D' : Nat → D) (τ : List Rv) (tg : Tg) (cn : B) (el : E) (x : D) (t : S) : Res (Option Bool × S) :=
  (opt (asgT tg (.val x) τ)).bind fun σ => (evB C D' cn { t with σ := σ }).b2 fun k t => if k = true then (evE C D' el t).b2 fun y t => (blOf y).bind fun b => .ok (some b, t) else .ok (none, t)
/-- ahead of turn i -/
structure GaP (K : PySem.W.Frag) (Tb : Addr → Prop) (b : Bx) (σm : L2.St) (τ : List Rv) (ρ1 : List Addr) (F1 : Addr → Prop) (H1 : Hp) (W : S → Prop) (H : Hp) : Prop where
  ex : ∃ (ρ : List Addr) (F : Addr → Prop) (t : S), ExE ρ1 F1 H1 ρ F H ∧ Rl K Tb b σm ρ F H { t with σ := τ } ∧ W t
section
variable {g : Gd} {c : Cc} {pos p gpos : Pos} {tgE it elt : Expr} {ifs : List Expr} {scope : Scope} {tg : Tg} {ii : I} {cn : B} {el : E} {al : Bool} {cs : List Nat}
theorem se_ga_sem {wi : L2.TI} {gt : TG} {tt : L2.TT} {te : TE} {P : Addr} (hP : g.Tb P)
    (i2 : ∀ b σV ρ F H s Q, Rl g.K g.Tb b σV ρ F H s → WG g.K g.Tb b σV ρ F H (fun ρ F H _ l J => ItOk g.K ρ F H J l) Q (evI g.C g.D ii s) → wi σV H Q)
    (g2 : ∀ b σV ρ F H s d v σ' Q, Rl g.K g.Tb b σV ρ F H s → Rep g.K ρ F H d v → asgT tg (.val d) s.σ = some σ' → (∀ σV', Rl g.K g.Tb b σV' ρ F H { s with σ := σ' } → (∀ i, i ∉ slots tg → σV'[i]? = σV[i]?) → σV'.length = σV.length → Q σV' H) → gt v σV H Q)
    (t2 : ∀ b σV ρ F H s Q, Rl g.K g.Tb b σV ρ F H s → WG g.K g.Tb b σV ρ F H (fun _ _ _ _ k k' => k' = k) Q (evB g.C g.D cn s) → tt σV H Q)
    (e2 : ∀ b σV ρ F H s Q, Rl g.K g.Tb b σV ρ F H s → WG g.K g.Tb b σV ρ F H (RepR g.K b σV) Q (evE g.C g.D el s) → te σV H Q)
    (hsl : ∀ n, n ∈ slots tg → n ∉ cs) : ∀ b σV ρ F H s Q, Rl g.K g.Tb b σV ρ F H s → WG g.K g.Tb b σV ρ F H (RepR g.K b σV) Q (evE g.C g.D (.ga al cs tg ii cn el) s) → tGA al P wi gt tt te cs σV H Q := by
  intro b σV ρ F H s Q rl h
  simp only [evE] at h
  refine h.part (T := fun Q' => wi σV H Q') (fun Q' q => i2 _ _ _ _ _ _ _ rl q) fun l s1 J ρ1 F1 H1 _ x1 r1 itok q1 => ?_
  obtain ⟨no, q2⟩ := q1.ite
  refine ⟨r1.tab P hP, fun H2 hT => ?_⟩
  obtain ⟨rT, xT⟩ := r1.tabbed (r1.tab P hP) hT
  obtain ⟨F2, mF, r2⟩ := rT.shr cs
  have x12 : ExE ρ1 F1 H1 ρ1 F2 H2 := xT.trans (ExE.more mF)
  have rm := r2.mask no
  obtain ⟨G, Y, w, hG, hY⟩ := itok.ex
  generalize hτ : mskR cs (shr cs s1.σ) = τ at *
  have nτ : ∀ (i : Nat) l, τ[i]? ≠ some (.mls l) := fun i l e => by
    rw [← hτ] at e
    rcases mskR_some e with z | ⟨m, z⟩
    · cases z
    · exact noOwn_at no m z
  let WT : Nat → S → Prop := fun n t => WG g.K g.Tb b σV ρ1 F1 H1 (RepR g.K b σV) Q ((gaL al (gaStep g.C g.D τ tg cn el) (l.drop n) t).b2 fun k t => .ok (.val (.bl k), { t with σ := shr cs s1.σ }))
  have q3 : WT 0 s1 := q2
  -- the end
  have fin : ∀ {k : Bool} {σ' : L2.St} {ρ F Hc} {t : S}, ExE ρ1 F2 H2 ρ F Hc → Rl g.K g.Tb (b.all (shr cs s1.σ) σV) σ' ρ F Hc t →
      WG g.K g.Tb b σV ρ1 F1 H1 (RepR g.K b σV) Q (.ok (.val (.bl k), { t with σ := shr cs s1.σ })) → Q (.bl k) Hc := fun {k σ' ρ F Hc t} x r q =>
    q (.bl k) ρ F Hc (x12.trans x) (Rl.unmask r2 r x) (by simp only [RepR, Rep])
  refine ⟨fun i m Hc => m = l.length - i ∧ i ≤ l.length ∧ GaP g.K g.Tb (b.all (shr cs s1.σ) σV) (mskV σV cs) τ ρ1 F2 H2 (WT i) Hc, ⟨l.length, by simp, Nat.zero_le _, ⟨⟨ρ1, F2, s1, ExE.refl, rm, q3⟩⟩⟩, ?_⟩
  rintro i m Hc ⟨rfl, hi, ⟨⟨ρ, F, t, x, r, hw⟩⟩⟩
  have gG := hG ρ F Hc ((x12.trans x).toS r1)
  by_cases hlt : i < l.length
  · refine .inr ⟨w.goes i Hc hlt gG, fun H' => i + 1 ≤ l.length ∧ GaP g.K g.Tb (b.all (shr cs s1.σ) σV) (mskV σV cs) τ ρ1 F2 H2 (WT (i + 1)) H', fun H' hn => ⟨l.length - (i + 1), by omega, rfl, hn.1, hn.2⟩, fun y Hc' hy => ?_⟩
    have dn : l[i]? = some l[i] := by simp [hlt]
    obtain ⟨sm, rep⟩ := hY ρ F Hc i y Hc' l[i] ((x12.trans x).toS r1) (w.yields i Hc y Hc' hlt gG hy) dn
    have dr : l.drop i = l[i] :: l.drop (i + 1) := List.drop_eq_getElem_cons hlt
    have hw' : WG g.K g.Tb b σV ρ1 F1 H1 (RepR g.K b σV) Q ((gaL al (gaStep g.C g.D τ tg cn el) (l[i] :: l.drop (i + 1)) t).b2 fun k t => .ok (.val (.bl k), { t with σ := shr cs s1.σ })) := by rw [← dr]; exact hw
    simp only [gaL, b2_assoc] at hw'
    obtain ⟨yo, t2', z1, k5⟩ := b2_ok hw'
    unfold gaStep at z1
    cases z : asgT tg (.val l[i]) τ with
    | none => rw [z] at z1; cases z1
    | some σ1 =>
      rw [z] at z1
      simp only [opt, Res.bind] at z1
      have r' := r.same sm
      refine g2 _ (mskV σV cs) ρ F Hc' { t with σ := τ } l[i] y σ1 _ r' rep z fun σV2 rl2 o2 l2 => ?_
      refine ⟨⟨l2, fun j v e => by
        rw [o2 j fun q => hsl j q (mskV_get e).1]; exact e⟩, ?_⟩
      cases z2 : evB g.C g.D cn { t with σ := σ1 } with
      | exc _ => rw [z2] at z1; cases z1
      | bad => rw [z2] at z1; cases z1
      | ok q =>
        obtain ⟨k, t3⟩ := q
        rw [z2] at z1
        simp only [Res.b2] at z1
        refine t2 _ σV2 ρ F Hc' { t with σ := σ1 } _ rl2 (WG.of z2 fun k' ρ3 F3 H3 x3 r3 e3 => ?_)
        subst e3
        have xb : ExE ρ F Hc ρ3 F3 H3 := (ExE.same sm).trans x3
        cases k' with
        | false =>
          rw [if_neg (by decide)] at z1 ⊢
          cases z1
          exact ⟨hlt, ⟨⟨ρ3, F3, _, x.trans xb, r3.again r (xb.toS r) nτ, k5⟩⟩⟩
        | true =>
          rw [if_pos rfl] at z1 ⊢
          cases z3 : evE g.C g.D el t3 with
          | exc _ => rw [z3] at z1; cases z1
          | bad => rw [z3] at z1; cases z1
          | ok q =>
            obtain ⟨yr, t4⟩ := q
            rw [z3] at z1
            simp only [Res.b2] at z1
            cases yr with
            | un => cases z1
            | mls _ => cases z1
            | val d =>
              cases d <;> first | (cases z1; done) | skip
              rename_i bb
              simp only [blOf, Res.bind, Res.ok.injEq, Prod.mk.injEq] at z1
              obtain ⟨rfl, rfl⟩ := z1
              refine e2 _ σV2 ρ3 F3 H3 t3 _ r3 (WG.of z3 fun v ρ4 F4 H4 x4 r4 e4 => ?_)
              simp only [RepR, Rep] at e4
              refine ⟨bb, e4, ?_⟩
              have xc : ExE ρ F Hc ρ4 F4 H4 := xb.trans x4
              by_cases hb : bb = al
              · rw [if_pos hb]
                simp only [if_pos hb] at k5
                exact ⟨hlt, ⟨⟨ρ4, F4, _, x.trans xc, r4.again r (xc.toS r) nτ, k5⟩⟩⟩
              · rw [if_neg hb]
                simp only [if_neg hb] at k5
                exact fin (x.trans xc) r4 k5
  · have e : i = l.length := by omega
    subst e
    refine .inl ⟨w.stops Hc gG, ?_⟩
    have hw' : WG g.K g.Tb b σV ρ1 F1 H1 (RepR g.K b σV) Q ((gaL al (gaStep g.C g.D τ tg cn el) [] t).b2 fun k t => .ok (.val (.bl k), { t with σ := shr cs s1.σ })) := by
      rw [← List.drop_length (l := l)]; exact hw
    simp only [gaL, Res.b2] at hw'
    exact fin (t := { t with σ := τ }) x r hw'

theorem xok_gx {X : Cx} (hX : XOk g c X) (hgl : c.gl = 2) {s : Shared} {H : Hp} {cl : List (Str × Addr)} {C : Addr} {code : Value} {fp : List Addr} {pn : List (Addr × Obj)} :
    XOk g (innerG c scope) (gx X X.A.in1.in1 (genEnv scope cl C code builtinsNs X.env) s H fp pn) where
  P := hX.P
  w := hX.w
  K := hX.K
  mg := hX.mg
  base := hX.base
  N := hX.N
  nd := hX.nd
  sc := rfl
  fn := fun _ h => by cases h
  calm := rfl
  room := by
    have r := hX.room
    rw [hgl] at r
    refine ⟨r.hd, ?_, ?_⟩
    · have := r.dp
      show X.A.depth + 1 + 3 * (g.k + 0) + 5 < _
      omega
    · have := r.un
      show X.A.units + 1 + 1 + 3 + 16 * (g.k + 0) + 200 < _
      omega
  code := fun h => absurd h (by show ¬ 1 < 0; omega)
theorem gsc_of {X : Cx} (hX : XOk g c X) (h : gscB c scope = true) : GSc X scope (capsOf c scope) := by
  unfold gscB at h
  simp only [Bool.and_eq_true, Bool.not_eq_true', List.all_eq_true, Bool.or_eq_true, beq_iff_eq] at h
  obtain ⟨⟨⟨⟨⟨h1, h2⟩, h3⟩, h4⟩, h5⟩, h6⟩ := h
  refine ⟨?_, h2, fun y hy e => ?_, h4, h5, fun y hy e => ?_, fun i hi x hx => ?_⟩
  · revert h1
    cases scope.kind <;> simp
  · have := h3 y hy
    rw [e] at this
    exact absurd this (by decide)
  · have h7 := h6 y hy
    rw [hX.sc]
    rcases h7 with (h7 | h7) | h7
    · rw [e] at h7; exact absurd h7 (by decide)
    · exact .inl h7
    · exact .inr h7
  · unfold capsOf at hi
    obtain ⟨y, hy, e⟩ := List.mem_filterMap.mp hi
    split at e
    · rename_i e1
      have e2 := idx_at e
      rw [hX.N, e2] at hx
      cases hx
      rw [← e1]
      exact h5 y hy
    · cases e
theorem genFold_no (h : (isSet it || isLst it) = false) (env : Env) (x : Value) : genFold it env x = pure x := by
  cases it <;> first | rfl | cases h
theorem se_ga {gt : List (Str × Gv)} (gk : GOk g gt) (hc : c.gt = gt) {f : Str} (hf : (isBlt c f "all" || isBlt c f "any") = true) (hS : gscB c scope = true) (hgl : c.gl = 2) (hit : (isSet it || isLst it) = false) (hi : SI g c tgE it ii) (htg : STg g (innerG c scope) tgE tg)
    (hsl : ∀ n, n ∈ slots tg → n ∉ capsOf c scope) (hcn : STs g (innerG c scope) ifs cn) (he : SE g (innerG c scope) elt el) :
    SE g c (.Call (.Name f p) [.GeneratorExp elt [⟨tgE, it, ifs, 0⟩] scope gpos] [] pos) (.ga (f == "all") (capsOf c scope) tg ii cn el) := by
  obtain ⟨wi, i1, i2⟩ := hi
  obtain ⟨tt, g1, g2⟩ := htg
  obtain ⟨tc, t1, t2⟩ := hcn
  obtain ⟨te, e1, e2⟩ := he
  refine ⟨fun σ H Q => ∀ P, g.Tb P → tGA (f == "all") P wi tt tc te (capsOf c scope) σ H Q, fun X hX => ?_, fun b σV ρ F H s Q rl h P hP => se_ga_sem hP i2 g2 t2 e2 hsl b σV ρ F H s Q rl h⟩
  obtain ⟨cd, P, hcd, TB, hP⟩ := hX.code (by rw [hgl]; decide)
  have hr : Room (g.k + 1) X.A := by
    have r := hX.room
    rw [hgl] at r
    exact r
  have pg : PE X (.Call (.Name f p) [.GeneratorExp elt [⟨tgE, it, ifs, 0⟩] scope gpos] [] pos) (tGA (f == "all") P wi tt tc te (capsOf c scope)) := by
    rcases Bool.or_eq_true_iff.mp hf with hf | hf
    · obtain ⟨rfl, h3⟩ := isBlt_of hf
      obtain ⟨h5, h6, h7⟩ := globV_of h3
      exact pe_gall hr (hX.gl h3) (by rw [hX.mg]; exact gk.blt _ (hc ▸ h6)) TB hcd (gsc_of hX hS) (i1 X hX) (fun s H code fp pn => g1 _ (xok_gx hX hgl)) (fun s H code fp pn => t1 _ (xok_gx hX hgl)) (fun s H code fp pn => e1 _ (xok_gx hX hgl)) (genFold_no hit _)
    · obtain ⟨rfl, h3⟩ := isBlt_of hf
      obtain ⟨h5, h6, h7⟩ := globV_of h3
      exact pe_gany hr (hX.gl h3) (by rw [hX.mg]; exact gk.blt _ (hc ▸ h6)) TB hcd (gsc_of hX hS) (i1 X hX) (fun s H code fp pn => g1 _ (xok_gx hX hgl)) (fun s H code fp pn => t1 _ (xok_gx hX hgl)) (fun s H code fp pn => e1 _ (xok_gx hX hgl)) (genFold_no hit _)
  exact ⟨fun pins s σ H Q I h => pg.run pins s σ H Q I (h P hP)⟩
end
end Ev


set_option Elab.async false
set_option linter.all false
set_option maxRecDepth 100000
set_option maxHeartbeats 1000000
/-! EvK: statements. -/
namespace Ev
open PySem
open L2 (V Hp HO SqL SqT Rd upd upd_same upd_ne Same TE VK TS Ends PE PT PW PA PI PG PS PSs TG XK Sp FnOk Binds Room CX0 E0 Cx)
section
variable {K : PySem.W.Frag} {Tb : Addr → Prop} {b : Bx} {σV : L2.St} {ρ ρ' : List Addr} {F F' : Addr → Prop} {H H' : Hp} {s : S} {Dn : Ends}
/-- what is wanted of a statement's end -/
def WS (K : PySem.W.Frag) (Tb : Addr → Prop) (b : Bx) (ρ : List Addr) (F : Addr → Prop) (H : Hp) (D : Ends) : Res (Out × S) → Prop
  | .ok (.nx, s') => ∀ σV' ρ' F' H', ExS ρ F H ρ' F' H' → Rl K Tb b σV' ρ' F' H' s' → D.nx σV' H'
  | .ok (.brk, s') => ∀ σV' ρ' F' H', ExS ρ F H ρ' F' H' → Rl K Tb b σV' ρ' F' H' s' → D.bk σV' H'
  | .ok (.cnt, s') => ∀ σV' ρ' F' H', ExS ρ F H ρ' F' H' → Rl K Tb b σV' ρ' F' H' s' → D.ct σV' H'
  | .ok (.ret r, s') => ∀ σV' v ρ' F' H', ExS ρ F H ρ' F' H' → Rl K Tb b σV' ρ' F' H' s' → RepR K b σV' ρ' F' H' s' r v → D.rt v H'
  | _ => False
theorem WS.later {r : Res (Out × S)} (h : WS K Tb b ρ F H Dn r) (x : ExS ρ F H ρ' F' H') : WS K Tb b ρ' F' H' Dn r := by
  match r, h with
  | .ok (.nx, _), h => exact fun σV' ρ2 F2 H2 e q => h σV' ρ2 F2 H2 (x.trans e) q
  | .ok (.brk, _), h => exact fun σV' ρ2 F2 H2 e q => h σV' ρ2 F2 H2 (x.trans e) q
  | .ok (.cnt, _), h => exact fun σV' ρ2 F2 H2 e q => h σV' ρ2 F2 H2 (x.trans e) q
  | .ok (.ret _, _), h => exact fun σV' v ρ2 F2 H2 e q t => h σV' v ρ2 F2 H2 (x.trans e) q t
/-- a part of a statement, an expression -/
theorem WS.part {α' β' : Type} {R' : List Addr → (Addr → Prop) → Hp → S → α' → β' → Prop} {r : Res (α' × S)} {f : α' → S → Res (Out × S)} {T : (β' → Hp → Prop) → Prop} {Kt : β' → Hp → Prop} (rl : Rl K Tb b σV ρ F H s) (h : WS K Tb b ρ F H Dn (r.b2 f)) (ha : ∀ Q', WG K Tb b σV ρ F H R' Q' r → T Q')
    (hk : ∀ a s1 v ρ1 F1 H1, r = .ok (a, s1) → ExE ρ F H ρ1 F1 H1 → Rl K Tb b σV ρ1 F1 H1 s1 → R' ρ1 F1 H1 s1 a v → WS K Tb b ρ1 F1 H1 Dn (f a s1) → Kt v H1) : T Kt := by
  refine ha _ ?_
  cases r with
  | ok p =>
    obtain ⟨rv, s1⟩ := p
    intro v ρ1 F1 H1 e q t
    exact hk rv s1 v ρ1 F1 H1 rfl e q t (WS.later h (e.toS rl))
  | exc _ => exact h.elim
  | bad => exact h.elim
theorem WS.step {r : Res (Rv × S)} {f : Rv → S → Res (Out × S)} {T : VK → Prop} {Kt : VK} (rl : Rl K Tb b σV ρ F H s) (h : WS K Tb b ρ F H Dn (r.b2 f)) (ha : ∀ Q', WG K Tb b σV ρ F H (RepR K b σV) Q' r → T Q')
    (hk : ∀ rv s1 v ρ1 F1 H1, r = .ok (rv, s1) → ExE ρ F H ρ1 F1 H1 → Rl K Tb b σV ρ1 F1 H1 s1 → Rep K ρ1 F1 H1 rv.fz v → WS K Tb b ρ1 F1 H1 Dn (f rv s1) → Kt v H1) : T Kt := by
  refine WS.part rl h ha fun rv s1 v ρ1 F1 H1 er e q t w => ?_
  obtain ⟨F2, m, q2, p⟩ := RepR.fz q t
  exact hk rv s1 v ρ1 F2 H1 er (e.trans (ExE.more m)) q2 p (WS.later w ((ExE.more m).toS q))
theorem WS.opt {γ : Type} {o : Option γ} {f : γ → Res (Out × S)} (h : WS K Tb b ρ F H Dn ((opt o).bind f)) : ∃ c, o = some c ∧ WS K Tb b ρ F H Dn (f c) := by
  cases o with
  | none => exact h.elim
  | some c => exact ⟨c, rfl, h⟩
theorem WS.ite {p : Prop} [Decidable p] {x : Res (Out × S)} (h : WS K Tb b ρ F H Dn (if p then x else .bad)) : p ∧ WS K Tb b ρ F H Dn x := by
  by_cases k : p
  · rw [if_pos k] at h; exact ⟨k, h⟩
  · rw [if_neg k] at h; exact h.elim
theorem WS.nx (h : WS K Tb b ρ F H Dn (.ok (.nx, s))) (q : Rl K Tb b σV ρ F H s) : Dn.nx σV H := h σV ρ F H ExS.refl q
/-- a result that is there -/
theorem b2_okS {α : Type} {r : Res (α × S)} {f : α → S → Res (Out × S)} (h : WS K Tb b ρ F H Dn (r.b2 f)) : ∃ a s, r = .ok (a, s) ∧ WS K Tb b ρ F H Dn (f a s) := by
  cases r with
  | ok p => obtain ⟨a, s⟩ := p; exact ⟨a, s, rfl, h⟩
  | exc _ => exact h.elim
  | bad => exact h.elim
/-- a list of a name's own is changed -/
theorem Rl.setOwn (r : Rl K Tb b σV ρ F H s) {i : Nat} {l l' : List D} {a : Addr} {vs ws : List V} (e : s.σ[i]? = some (.mls l)) (ev : σV[i]? = some (some (.ref a))) (o : Own K b ρ F H a l vs) (h : Reps K ρ F H l' ws) :
    Rl K Tb b σV ρ F (upd H a (.lst ws)) { s with σ := s.σ.set i (.mls l') } ∧ ExS ρ F H ρ F (upd H a (.lst ws)) := by
  have x : ExS ρ F H ρ F (upd H a (.lst ws)) := exS_upd o.nf fun u e => by rw [o.at_] at e; cases e; trivial
  have keep : ∀ c u, H c = some u → c ≠ a → upd H a (.lst ws) c = some u := fun c u e z => by rw [upd_ne z]; exact e
  have nb : ∀ c u, b.H c = some u → c ≠ a := fun c u e z => by rw [z, o.new] at e; cases e
  refine ⟨⟨by rw [List.length_set]; exact r.len, fun j d q => ?_, fun j l2 q => ?_, fun j k l1 l2 c e1 e2 e3 e4 => ?_, fun n l2 q => ?_, r.ml, r.nd, r.rf, r.rn, fun c f => ?_, r.fn, fun c u q n t => keep _ _ (r.old c u q n t) (nb c u q), fun c u q t => ?_, fun c q => ⟨(r.pt c q).1, ?_⟩, r.bp, fun P q => ?_⟩, x⟩
  · rcases get_set q with ⟨_, z⟩ | ⟨_, z⟩
    · cases z
    · obtain ⟨v, q1, q2⟩ := r.val j d z
      exact ⟨v, q1, Rep.mono x _ _ q2⟩
  · rcases get_set q with ⟨rfl, z⟩ | ⟨ne, z⟩
    · cases z
      exact ⟨a, ws, ev, ⟨upd_same, Reps.mono x _ _ h, o.nf, o.nr, o.new, o.np⟩⟩
    · obtain ⟨c, us, q1, q2⟩ := r.own j l2 z
      exact ⟨c, us, q1, q2.mono x (keep _ _ q2.at_ fun w => ne (r.apart i j l l2 a e z ev (w ▸ q1))) q2.nf q2.nr⟩
  · have back : ∀ {j : Nat} {l1 : List D}, (s.σ.set i (.mls l'))[j]? = some (.mls l1) → ∃ l0, s.σ[j]? = some (.mls l0) := fun {j l1} q => by
      rcases get_set q with ⟨rfl, z⟩ | ⟨_, z⟩
      · exact ⟨l, e⟩
      · exact ⟨_, z⟩
    obtain ⟨m1, z1⟩ := back e1
    obtain ⟨m2, z2⟩ := back e2
    exact r.apart j k m1 m2 c z1 z2 e3 e4
  · obtain ⟨c, us, q1, q2, q3⟩ := r.mem n l2 q
    exact ⟨c, us, q1, keep _ _ q2 fun w => o.nr (w ▸ List.mem_of_getElem? q1), q3.mono x⟩
  · obtain ⟨u, q, t⟩ := r.ft c f
    exact ⟨u, keep _ _ q fun w => o.nf (w ▸ f), t⟩
  · obtain ⟨o1, q1, t1⟩ := r.oldT c u q t
    exact ⟨o1, keep _ _ q1 (nb c u q), t1⟩
  · obtain ⟨u, w, t⟩ := (r.pt c q).2
    exact ⟨u, keep _ _ w fun z => o.np (z ▸ q), t⟩
  · obtain ⟨ps, e1, t⟩ := r.tab P q
    exact ⟨ps, keep _ _ e1 (fun z => by rw [z, o.at_] at e1; cases e1), t⟩
end
/-- a statement and what it is in the small language -/
def SS (g : Gd) (c : Cc) (st : Stmt) (ir : T) : Prop := ∃ t : TS, (∀ X, XOk g c X → PassesOwn (model X.prog X.w) X.A X.env X.xe → PS X st t) ∧
  ∀ b σV ρ F H s D, Rl g.K g.Tb b σV ρ F H s → WS g.K g.Tb b ρ F H D (evS g.C g.D ir s) → t D σV H
def SSs (g : Gd) (c : Cc) (st : List Stmt) (ir : Ts) : Prop := ∃ t : TS, (∀ X, XOk g c X → PassesOwn (model X.prog X.w) X.A X.env X.xe → PSs X st t) ∧
  ∀ b σV ρ F H s D, Rl g.K g.Tb b σV ρ F H s → WS g.K g.Tb b ρ F H D (evSs g.C g.D ir s) → t D σV H
/-- an expression that may stand behind name = -/
def SA (g : Gd) (c : Cc) (e : Expr) (ir : E) : Prop := ∃ t : TE, (∀ X, XOk g c X → ∀ (x : Str) (py sp : Pos) (i : Nat), X.N[i]? = some x → L2.Loc X.env.scope x → (X.fn x = true ∨ X.env.scope.names.lookup x = some .local) → PS X (.Assign [.Name x py] e sp) (L2.tAsg t (L2.gName i))) ∧
  ∀ b σV ρ F H s Q, Rl g.K g.Tb b σV ρ F H s → WG g.K g.Tb b σV ρ F H (RepR g.K b σV) Q (evE g.C g.D ir s) → t σV H Q
section
variable {g : Gd} {c : Cc} {pos py : Pos} {tgE e e2 it elt : Expr} {st : Stmt} {sts a2 b2 : List Stmt} {i i2 el : E} {tg : Tg} {ta tb : Ts} {ii : I} {cn : B} {scope : Scope} {own : List (Str × Nat)} {ifs : List Expr}
def isLc : Expr → Bool
  | .ListComp .. => true
  | _ => false
theorem sw_no (h : isComp e = false) (h2 : isLc e = false) (t : Option Expr) (l : Nat) (env : Env) : swapsWith e t l env = pure false := by
  cases e <;> first | rfl | (cases h2; done) | (cases h; done)
theorem sa_of (h : isComp e = false) (h2 : isLc e = false) (ha : SE g c e i) : SA g c e i := by
  obtain ⟨t, h3, h4⟩ := ha
  exact ⟨t, fun X hX x py sp i hi hl hf => L2.ps_set (by rw [hX.N]; exact hX.nd) hi hl (h3 X hX) (sw_no h h2 _ _ _) hf, h4⟩
theorem sa_lc (hi : SI g c tgE it ii) (hset : isSet it = false) (hb : L2.blkC c.N c.sc scope own = true) (htg : STg g (inner c scope) tgE tg) (hsl : ∀ n, n ∈ slots tg → n ∈ own.map (·.2)) (hc : STs g (inner c scope) ifs cn) (he : SE g (inner c scope) elt el) :
    SA g c (.ListComp elt [⟨tgE, it, ifs, 0⟩] scope pos) (.lc (own.map (·.2)) tg ii cn el) := by
  obtain ⟨wi, gt, tt, te, i1, g1, t1, e1, sem⟩ := lc_parts hi hset hb htg hsl hc he
  refine ⟨L2.tLc wi gt tt te (own.map (·.2)), fun X hX x py sp i hi hl hf => ?_, sem⟩
  have nd : X.N.Nodup := by rw [hX.N]; exact hX.nd
  have bk : L2.BlkOk X.N X.env.scope scope own := by rw [hX.N, hX.sc]; exact L2.blkOk_by hb
  have pe := L2.pe_lc (pos := pos) hX.calm nd (i1 X hX) bk (fun s H C cl fp => g1 _ (hX.inner s H scope C cl fp)) (fun s H C cl fp => t1 _ (hX.inner s H scope C cl fp)) (fun s H C cl fp => e1 _ (hX.inner s H scope C cl fp)) (set_iter hset _)
  have sw : swapsWith (.ListComp elt [⟨tgE, it, ifs, 0⟩] scope pos) (some (.Name x py)) sp.line X.env = pure (X.env.blockKind == .function && X.env.kindOf x == some .local && py.line == pos.line && !(scope.names.any fun (n, k) => n == x && (k == .local || k == .cell))) := rfl
  cases z : (X.env.blockKind == .function && X.env.kindOf x == some .local && py.line == pos.line && !(scope.names.any fun (n, k) => n == x && (k == .local || k == .cell))) with
  | false => rw [z] at sw; exact L2.ps_set nd hi hl pe sw hf
  | true =>
    rw [z] at sw
    simp only [Bool.and_eq_true, beq_iff_eq] at z
    exact L2.ps_setLc hX.calm nd hi z.1.1.2 sw (i1 X hX) bk (fun s H C cl fp => g1 _ (hX.inner s H scope C cl fp)) (fun s H C cl fp => t1 _ (hX.inner s H scope C cl fp)) (fun s H C cl fp => e1 _ (hX.inner s H scope C cl fp)) (set_iter hset _)
end
end Ev


set_option Elab.async false
set_option linter.all false
set_option maxRecDepth 100000
set_option maxHeartbeats 4000000
/-! XT: extend by a list or a tuple of any kind. -/
namespace PySem.AutoSeq1
open PySem PySem.AutoSeq1
theorem xt_list (l : Addr) (items : Array Value) (n : Nat) (b : Addr) (items2 : Array Value) (n2 : Nat) (sl2 : Array (Option Value)) (hs0 : ¬(!items.isEmpty && Builtin.List.listTooLong (items.size + items2.size)) = true) (hs1 : items.size ≤ sizeLine) (hs2 : items.size + items2.size ≤ sizeLine + 1) :
    Meets (Builtin.«list.extend» ⟨[.ref l, .ref b], []⟩) (fun _ R s => s.heap.get? l = some { cls := .type "list", dict := none, data := .seq items n, slots := #[] } ∧ s.heap.get? b = some { cls := .type "list", dict := none, data := .seq items2 n2, slots := sl2 } ∧ R (.ok (.ret Value.none)) { s with heap := s.heap.update l (Obj.mapSeq fun x => x ++ items2), toks := s.toks }) :=
  .of_wp fun prog w A R s h => by
    obtain ⟨hp, g, d, tk, os⟩ := s; obtain ⟨hl, hb, h⟩ := h; have f1 := idx_int; have f2 := sub_tuple_tuple; have f3 := sub_list_list; have f4 := sub_tuple_list; have f5 := sub_list_tuple;
    have hz' : (items ++ items2).size ≤ sizeLine + 1 := by rw [Array.size_append]; exact hs2
    wp_walk using (wpAny_updateSeq hl rfl (hz := hs1) (_hz' := hz')), wpAny_loadPart' hl, wpAny_loadPart' hb; exact ⟨_, rfl, h⟩
theorem xt_tup (l : Addr) (items : Array Value) (n : Nat) (b : Addr) (items2 : Array Value) (n2 : Nat) (dd : Option Addr) (sl2 : Array (Option Value)) (hs0 : ¬(!items.isEmpty && Builtin.List.listTooLong (items.size + items2.size)) = true) (hs1 : items.size ≤ sizeLine) (hs2 : items.size + items2.size ≤ sizeLine + 1) :
    Meets (Builtin.«list.extend» ⟨[.ref l, .ref b], []⟩) (fun _ R s => s.heap.get? l = some { cls := .type "list", dict := none, data := .seq items n, slots := #[] } ∧ s.heap.get? b = some { cls := .type "tuple", dict := dd, data := .seq items2 n2, slots := sl2 } ∧ R (.ok (.ret Value.none)) { s with heap := s.heap.update l (Obj.mapSeq fun x => x ++ items2), toks := s.toks }) :=
  .of_wp fun prog w A R s h => by
    obtain ⟨hp, g, d, tk, os⟩ := s; obtain ⟨hl, hb, h⟩ := h; have f1 := idx_int; have f2 := sub_tuple_tuple; have f3 := sub_list_list; have f4 := sub_tuple_list; have f5 := sub_list_tuple;
    have hz' : (items ++ items2).size ≤ sizeLine + 1 := by rw [Array.size_append]; exact hs2
    wp_walk using (wpAny_updateSeq hl rfl (hz := hs1) (_hz' := hz')), wpAny_loadPart' hl, wpAny_loadPart' hb; exact ⟨_, rfl, h⟩
end PySem.AutoSeq1
namespace Ev
open PySem
open L2 (V Hp HO SqL SqT Rd upd upd_same upd_ne Same TE VK Cx Inv)
def rExtA (K : PySem.W.Frag) : V → List V → Hp → VK → Prop := fun x vs H Q => ∃ l b xs zs, x = .ref l ∧ vs = [.ref b] ∧ H l = some (.lst xs) ∧ (SqL K H b zs ∨ SqT K H b zs) ∧ xs.length + zs.length ≤ sizeLine ∧ Q .non (upd H l (.lst (xs ++ zs)))
theorem mt_extA {X : Cx} : L2.MtM X "list.extend" (rExtA X.K) := by
  intro pins s σ H x vs v us Q I rx rv h
  obtain ⟨l, b, xs, zs, rfl, rfl, hH, hB, hz, q⟩ := h
  cases rx
  obtain ⟨u, rfl, ru⟩ := rv.one
  cases ru
  obtain ⟨z, its, n, r, hl, e⟩ := I.lstM hH
  have fin : ∀ its2 : List Value, L2.Vals zs its2 → ∃ v' H', L2.Inv X pins σ H' { s with heap := s.heap.update l (Obj.mapSeq fun x => x ++ its2.toArray) } ∧ L2.RelV v' Value.none ∧ Q v' H' := fun its2 r2 => by
    refine ⟨.non, _, I.lset (its' := its ++ its2) hH e (by simp) (r.append r2) ?_, rfl, q⟩
    have := r.length
    have := r2.length
    rw [List.length_append]
    omega
  have hn : ∀ its2 : List Value, L2.Vals zs its2 → its.toArray.size + its2.toArray.size ≤ sizeLine := fun its2 r2 => by
    have := r.length
    have := r2.length
    rw [List.size_toArray, List.size_toArray]; omega
  have hlong : ∀ its2 : List Value, L2.Vals zs its2 → ¬ (!its.toArray.isEmpty && Builtin.List.listTooLong (its.toArray.size + its2.toArray.size)) = true := fun its2 r2 => by
    rw [L2.notLongL (hn its2 r2), Bool.and_false]
    exact Bool.false_ne_true
  rcases hB with hB | hB
  · obtain ⟨its2, r2, ⟨⟨c2, d2, dt2, sl2⟩, k, e2, hc2, hd2, ht2⟩, _⟩ := I.list hB
    simp only at hc2 hd2 ht2
    subst hc2 hd2 ht2
    exact call_meets PySem.F.slot_list_extend ⟨_, e, rfl⟩ PySem.F.entry_list_extend (PySem.F.args_list_extend_2 _ _)
      (AutoSeq1.xt_list l its.toArray n b its2.toArray k sl2 (hlong its2 r2) (by rw [List.size_toArray]; omega) (by have := hn its2 r2; omega)) ⟨e, e2, fin its2 r2⟩
  · obtain ⟨its2, r2, ⟨⟨c2, d2, dt2, sl2⟩, e2, hc2, k, hd2⟩, _⟩ := I.tuple hB
    simp only at hc2 hd2
    subst hc2 hd2
    exact call_meets PySem.F.slot_list_extend ⟨_, e, rfl⟩ PySem.F.entry_list_extend (PySem.F.args_list_extend_2 _ _)
      (AutoSeq1.xt_tup l its.toArray n b its2.toArray k d2 sl2 (hlong its2 r2) (by rw [List.size_toArray]; omega) (by have := hn its2 r2; omega)) ⟨e, e2, fin its2 r2⟩
end Ev


set_option Elab.async false
set_option linter.all false
set_option maxRecDepth 100000
set_option maxHeartbeats 1000000
/-! EvL: statements, each. -/
namespace Ev
open PySem
open L2 (V Hp HO SqL SqT Rd upd upd_same upd_ne Same TE VK TS Ends PE PT PW PA PI PG PS PSs TG XK Sp FnOk Binds Room CX0 E0 Cx)
section
variable {g : Gd} {c : Cc} {pos py : Pos} {tgE e e2 e3 it elt : Expr} {st : Stmt} {sts a2 b2 : List Stmt} {i i2 i3 el : E} {tg : Tg} {ta tb : Ts} {t0 : T} {ii : I} {cn : B} {n : Nat}
theorem ss_set {x : Str} (hx : slotW c x = some n) (ha : SA g c e i) : SS g c (.Assign [.Name x py] e pos) (.asg (.nm n) i) := by
  obtain ⟨t, h1, h2⟩ := ha
  obtain ⟨k1, k2, k3, k4⟩ := slotW_of hx
  refine ⟨L2.tAsg t (L2.gName n), fun X hX _ => h1 X hX x py pos n (by rw [hX.N]; exact k1) (by rw [hX.sc]; exact k2) (k4.imp (hX.fn x) (fun q => by rw [hX.sc]; exact q)), fun b σV ρ F H s Dn rl h => ?_⟩
  simp only [evS] at h
  refine WS.part rl h (T := fun Q' => t σV H Q') (fun Q' q => h2 _ _ _ _ _ _ _ rl q) fun x1 s1 v ρ1 F1 H1 _ e1 r1 p1 q1 => ?_
  obtain ⟨σ', e3, q2⟩ := q1.opt
  simp only [asgT] at e3
  split at e3
  · rename_i hi
    cases e3
    exact q2.nx (r1.put p1 hi)
  · cases e3
theorem ss_asg {ts : List Expr} {k : Nat} (hc : isComp e = false) (hc2 : isTup e = false) (hg : STg g c (.Tuple ts k py) tg) (htp : ∃ us, tg = .tp us) (ha : SE g c e i) : SS g c (.Assign [.Tuple ts k py] e pos) (.asg tg i) := by
  obtain ⟨t, h1, h2⟩ := ha
  obtain ⟨gt, g1, g2⟩ := hg
  refine ⟨L2.tAsg t gt, fun X hX _ => L2.ps_asg (h1 X hX) (g1 X hX) (by cases e <;> first | rfl | (cases hc; done)) (by cases e <;> first | rfl | (cases hc2; done)) (by rfl), fun b σV ρ F H s Dn rl h => ?_⟩
  simp only [evS] at h
  obtain ⟨us, rfl⟩ := htp
  obtain ⟨x0, s0, z0, h0⟩ := b2_okS h
  obtain ⟨σ0, e0, _⟩ := h0.opt
  refine WS.step rl h (T := fun Q' => t σV H Q') (fun Q' q => h2 _ _ _ _ _ _ _ rl q) fun x1 s1 v ρ1 F1 H1 er e1 r1 p1 q1 => ?_
  rw [z0] at er
  cases er
  obtain ⟨σ', e3, q2⟩ := q1.opt
  cases x0 with
  | un => simp only [asgT] at e3; cases e3
  | mls l => simp only [asgT] at e3; cases e3
  | val d => exact g2 b σV ρ1 F1 H1 s0 d v σ' _ r1 p1 e3 fun σV' r2 _ _ => q2 σV' ρ1 F1 H1 ExS.refl r2
theorem asg_ix {o j : Expr} (h : isSlice j = false) (env : Env) (v : Value) : assign (.Subscript o j py) env v = (do
      let ov ← holding [v] (eval o env)
      let iv ← holding [v, ov] (eval j env)
      standAt py
      holding [v, ov, iv] (setItem ov iv v)
      release [v, ov, iv] []) := by
  cases j <;> first | rfl | (cases h; done)
theorem setV_rep {K : PySem.W.Frag} {ρ : List Addr} {F : Addr → Prop} {H : Hp} {k : Key} {d : D} {v : V} (hv : Rep K ρ F H d v) : ∀ {kvs : List (Key × V)} {ds : List D}, Reps K ρ F H ds (kvs.map (·.2)) →
    (kvs.map (fun kv => if kv.1 = k then (kv.1, v) else kv)).map (·.1) = kvs.map (·.1) ∧ Reps K ρ F H (setV (kvs.map (·.1)) ds k d) ((kvs.map (fun kv => if kv.1 = k then (kv.1, v) else kv)).map (·.2))
  | [], ds, h => ⟨rfl, by cases ds <;> exact h⟩
  | p :: r, ds, h => by
    cases ds with
    | nil => simp only [List.map_cons, Reps] at h; cases h
    | cons x xs =>
      simp only [List.map_cons, Reps] at h
      obtain ⟨v0, u, z, h1, h2⟩ := h
      cases z
      obtain ⟨k1, k2⟩ := setV_rep hv h2
      by_cases e : p.1 = k
      · simp only [List.map_cons, setV, if_pos e]
        exact ⟨by rw [k1], Reps.cons hv k2⟩
      · simp only [List.map_cons, setV, if_neg e]
        exact ⟨by rw [k1], Reps.cons h1 k2⟩
theorem putK_rep {K : PySem.W.Frag} {ρ : List Addr} {F : Addr → Prop} {H : Hp} {k : Key} {d : D} {v : V} (hv : Rep K ρ F H d v) {kvs : List (Key × V)} {ds : List D} (h : Reps K ρ F H ds (kvs.map (·.2))) :
    (L2.putK kvs k v).map (·.1) = (putD (kvs.map (·.1)) ds k d).1 ∧ Reps K ρ F H (putD (kvs.map (·.1)) ds k d).2 ((L2.putK kvs k v).map (·.2)) := by
  have ea : ((kvs.map (·.1)).any fun k' => decide (k' = k)) = kvs.any fun kv => decide (kv.1 = k) := by rw [List.any_map]; rfl
  unfold L2.putK putD
  rw [ea]
  split
  · exact setV_rep hv h
  · refine ⟨by simp, ?_⟩
    rw [List.map_append]
    exact Reps.append h (Reps.one hv)
theorem ss_setix {o j : Expr} (hc : isComp e = false) (hsl : isSlice j = false) (ho : SE g c o i) (hj : SE g c j i2) (ha : SE g c e i3) : SS g c (.Assign [.Subscript o j py] e pos) (.setix i i2 i3) := by
  obtain ⟨t, h1, h2⟩ := ha
  obtain ⟨to, o1, o2⟩ := ho
  obtain ⟨tj, j1, j2⟩ := hj
  refine ⟨L2.tAsg t (L2.gSub to tj fun o i v H Q => L2.rSetL o i v H Q ∨ L2.rSetD o i v H Q), fun X hX _ => L2.ps_asg (h1 X hX) (L2.pg_sub (o1 X hX) (j1 X hX) (fun pins s σ H o i v ov iv u Q I ro ri rv h => h.elim (L2.set_list pins s σ H o i v ov iv u Q I ro ri rv) (L2.set_dict (by have := hX.room.units; omega) pins s σ H o i v ov iv u Q I ro ri rv)) (asg_ix hsl _)) (by cases e <;> first | rfl | (cases hc; done)) (by cases e <;> rfl) (by rfl), fun b σV ρ F H s Dn rl h => ?_⟩
  simp only [evS] at h
  refine WS.step rl h (T := fun Q' => t σV H Q') (fun Q' q => h2 _ _ _ _ _ _ _ rl q) fun z s1 v ρ1 F1 H1 _ e1 r1 p1 q1 => ?_
  refine WS.step r1 q1 (T := fun Q' => to σV H1 Q') (fun Q' q => o2 _ _ _ _ _ _ _ r1 q) fun x s2 u ρ2 F2 H2 _ e2 r2 p2 q2 => ?_
  refine WS.step r2 q2 (T := fun Q' => tj σV H2 Q') (fun Q' q => j2 _ _ _ _ _ _ _ r2 q) fun y s3 w ρ3 F3 H3 _ e3 r3 p3 q3 => ?_
  split at q3
  · rename_i m yv ex
    rw [ex] at p2
    have p2' := Rep.mono (e3.toS r2) _ _ p2
    have p1' := Rep.mono ((e2.trans e3).toS r1) _ _ p1
    simp only [Rep] at p2'
    obtain ⟨a, z1, rfl⟩ := p2'
    have hm : a ∈ ρ3 := List.mem_of_getElem? z1
    split at q3
    · rename_i l el
      split at q3
      · rename_i k ek
        split at q3
        · rename_i jj ej
          obtain ⟨vs, z3, z4⟩ := r3.atL z1 el
          rw [ek] at p3
          simp only [Rep] at p3
          refine .inl ⟨a, vs, k, jj, rfl, p3, z3, by rw [z4.length]; exact ej, ?_⟩
          exact q3 σV ρ3 F3 _ ((exE_set hm z3).toS r3) (r3.setM z1 z3 (Reps.set jj z4 p1') (List.getElem?_eq_some_iff.mp el).1)
        · exact q3.elim
      · exact q3.elim
    · rename_i ks ds el
      split at q3
      · rename_i kk ek
        obtain ⟨hz, q4⟩ := q3.ite
        obtain ⟨a', u', w1, w2, kvs, rfl, w3, w4⟩ := r3.mem _ _ el
        rw [z1] at w1
        cases w1
        subst w3
        have ek' : w = L2.kV kk := key_rep p3 ek
        obtain ⟨k1, k2⟩ := putK_rep (k := kk) p1' w4
        have x : ExS ρ3 F3 H3 ρ3 F3 (upd H3 a (.dK (L2.putK kvs kk v))) := (exE_setO hm w2 id).toS r3
        refine .inr ⟨a, _, rfl, by rw [ek']; exact L2.DPut.k w2 (by simpa using hz), ?_⟩
        exact q4 σV ρ3 F3 _ x (r3.setO z1 w2 id ⟨L2.putK kvs kk v, rfl, k1, k2⟩ (List.getElem?_eq_some_iff.mp el).1)
      · exact q3.elim
    · exact q3.elim
  · exact q3.elim
theorem ss_aug {x : Str} {o : Operator} {bo : Bop} (hx : slotW c x = some n) (ho : bopO o = some bo) (ha : SE g c e i) : SS g c (.AugAssign (.Name x py) o e pos) (.aug n bo i) := by
  obtain ⟨t, h1, h2⟩ := ha
  obtain ⟨k1, k2, k3, k4⟩ := slotW_of hx
  have none_ : (∀ b σV ρ F H s Dn, Rl g.K g.Tb b σV ρ F H s → WS g.K g.Tb b ρ F H Dn (evS g.C g.D (.aug n bo i) s) → bo = .add ∨ bo = .sub) := fun b σV ρ F H s Dn rl h => by
    simp only [evS] at h
    split at h
    · obtain ⟨y, s1, _, h3⟩ := b2_okS h
      split at h3
      · exact .inl rfl
      · exact .inr rfl
      · exact h3.elim
    · exact h.elim
  cases o <;> first | (cases ho; done) | skip
  all_goals cases ho
  · refine ⟨L2.tAug n t (L2.ipI fun i j => i + j), fun X hX _ => L2.ps_aug (by rw [hX.N]; exact hX.nd) (by rw [hX.N]; exact k1) (by rw [hX.sc]; exact k2) (h1 X hX) L2.ip_add (k4.imp (hX.fn x) (fun q => by rw [hX.sc]; exact q)), fun b σV ρ F H s Dn rl h => ?_⟩
    simp only [evS] at h
    split at h
    · rename_i a ea
      obtain ⟨v, w1, w2⟩ := rl.val n _ ea
      simp only [Rep] at w2
      subst w2
      refine ⟨_, w1, WS.part rl h (T := fun Q' => t σV H Q') (fun Q' q => h2 _ _ _ _ _ _ _ rl q) fun y s1 v ρ1 F1 H1 _ e1 r1 p1 q1 => ?_⟩
      cases y with
      | un => exact q1.elim
      | mls _ => exact q1.elim
      | val d =>
        cases d <;> first | exact q1.elim | skip
        rename_i b' _
        simp only [RepR, Rep] at p1
        refine ⟨a, b', rfl, p1, WS.nx (s := { s1 with σ := s1.σ.set n (.val (.int (a + b'))) }) q1 (r1.put (rv := .val (.int (a + b'))) (by simp only [RepR, Rep]) ?_)⟩
        have := (List.getElem?_eq_some_iff.mp w1).1
        rw [r1.len]; exact this
    · exact h.elim
  · refine ⟨L2.tAug n t (L2.ipI fun i j => i - j), fun X hX _ => L2.ps_aug (by rw [hX.N]; exact hX.nd) (by rw [hX.N]; exact k1) (by rw [hX.sc]; exact k2) (h1 X hX) L2.ip_sub (k4.imp (hX.fn x) (fun q => by rw [hX.sc]; exact q)), fun b σV ρ F H s Dn rl h => ?_⟩
    simp only [evS] at h
    split at h
    · rename_i a ea
      obtain ⟨v, w1, w2⟩ := rl.val n _ ea
      simp only [Rep] at w2
      subst w2
      refine ⟨_, w1, WS.part rl h (T := fun Q' => t σV H Q') (fun Q' q => h2 _ _ _ _ _ _ _ rl q) fun y s1 v ρ1 F1 H1 _ e1 r1 p1 q1 => ?_⟩
      cases y with
      | un => exact q1.elim
      | mls _ => exact q1.elim
      | val d =>
        cases d <;> first | exact q1.elim | skip
        rename_i b' _
        simp only [RepR, Rep] at p1
        refine ⟨a, b', rfl, p1, WS.nx (s := { s1 with σ := s1.σ.set n (.val (.int (a - b'))) }) q1 (r1.put (rv := .val (.int (a - b'))) (by simp only [RepR, Rep]) ?_)⟩
        have := (List.getElem?_eq_some_iff.mp w1).1
        rw [r1.len]; exact this
    · exact h.elim
  all_goals exact ⟨L2.tNever, fun X hX _ => L2.ps_never, fun b σV ρ F H s Dn rl h => by
    rcases none_ b σV ρ F H s Dn rl h with z | z <;> cases z⟩
theorem ss_app {x : Str} {ap cp p1 : Pos} (hx : slotR c x = some n) (hl : (ap.endLine == cp.line) = true) (hs : isStar e = false) (ha : SE g c e i) : SS g c (.Expr (.Call (.Attribute (.Name x p1) "append" ap) [e] [] cp) pos) (.app n i) := by
  obtain ⟨t, h1, h2⟩ := ha
  obtain ⟨k1, k2, k3⟩ := slotR_of hx
  obtain ⟨o1, o2, _⟩ := okName_of k3
  refine ⟨L2.tDrop (L2.tBM g.K "list" L2.rAppend (L2.tVar n) (L2.tCons t L2.tNil)), fun X hX _ => ?_, fun b σV ρ F H s Dn rl h => ?_⟩
  · rw [← hX.K]
    exact L2.ps_expr (L2.pe_bm PySem.F.plainAttrs_list PySem.F.slot_list_append PySem.F.type_list_append L2.mt_append (L2.pe_var (by rw [hX.N]; exact k1) (by rw [hX.sc]; exact k2) o1 o2) (L2.pa_cons (h1 X hX) L2.pa_nil (star_no hs _ _))
      (by rfl) (by rw [star_no hs]; rfl) hl (star_no hs _ _) (by rfl)) (by rfl)
  · simp only [evS] at h
    obtain ⟨hL, h3⟩ := h.ite
    unfold isL at hL
    split at hL
    · rename_i l0 el0
      obtain ⟨a, vs, w1, w2⟩ := rl.own n l0 el0
      refine ⟨.ref a, w1, tyl w2.at_, ?_⟩
      refine WS.step rl h3 (T := fun Q' => t σV H Q') (fun Q' q => h2 _ _ _ _ _ _ _ rl q) fun y s1 v ρ1 F1 H1 _ e1 r1 p1 q1 => ?_
      split at q1
      · rename_i l el
        obtain ⟨hz, q2⟩ := q1.ite
        obtain ⟨a', vs', w3, w4⟩ := r1.own n l el
        rw [w1] at w3
        cases w3
        obtain ⟨r2, x2⟩ := r1.setOwn (l' := l ++ [y.fz]) (ws := vs' ++ [v]) el w1 w4 (Reps.append w4.reps (Reps.one p1))
        refine ⟨a, vs', v, rfl, rfl, w4.at_, ?_, q2 σV ρ1 F1 _ x2 r2⟩
        rw [w4.reps.length]; exact hz
      · rename_i m em
        obtain ⟨u, w3, w4⟩ := r1.val n _ em
        rw [w1] at w3
        cases w3
        simp only [Rep] at w4
        obtain ⟨c', w5, w6⟩ := w4
        cases w6
        have hin : a ∈ ρ1 := List.mem_of_getElem? w5
        rcases e1.rn a hin with z | z
        · exact (w2.nr z).elim
        · rw [w2.at_] at z; cases z
      · exact q1.elim
    · rename_i m em
      obtain ⟨u, w1, w2⟩ := rl.val n _ em
      simp only [Rep] at w2
      obtain ⟨a, w3, rfl⟩ := w2
      split at hL
      · rename_i l0 em0
        obtain ⟨vs0, w5, _⟩ := rl.atL w3 em0
        refine ⟨.ref a, w1, tyl w5, ?_⟩
        refine WS.step rl h3 (T := fun Q' => t σV H Q') (fun Q' q => h2 _ _ _ _ _ _ _ rl q) fun y s1 v ρ1 F1 H1 _ e1 r1 p1 q1 => ?_
        split at q1
        · rename_i l el
          obtain ⟨a', vs', z3, z4⟩ := r1.own n l el
          rw [w1] at z3
          cases z3
          exact (z4.nr (List.mem_of_getElem? (e1.pre m a w3))).elim
        · rename_i m' em'
          obtain ⟨u, z3, z4⟩ := r1.val n _ em'
          rw [w1] at z3
          cases z3
          simp only [Rep] at z4
          obtain ⟨c', z5, z6⟩ := z4
          cases z6
          split at q1
          · rename_i l el
            obtain ⟨hz, q2⟩ := q1.ite
            obtain ⟨vs', z8, z9⟩ := r1.atL z5 el
            have hm : a ∈ ρ1 := List.mem_of_getElem? z5
            refine ⟨a, vs', v, rfl, rfl, z8, ?_, q2 σV ρ1 F1 _ ((exE_set hm z8).toS r1) (r1.setM z5 z8 (Reps.append z9 (Reps.one p1)) (List.getElem?_eq_some_iff.mp el).1)⟩
            rw [z9.length]; exact hz
          · exact q1.elim
        · exact q1.elim
      · cases hL
    · cases hL
theorem seD_rep {K : PySem.W.Frag} {ρ : List Addr} {F : Addr → Prop} {H : Hp} {d : D} {v : V} {l : List D} (p : Rep K ρ F H d v) (e : seD d = some l) : ∃ (a : Addr) (vs : List V), v = .ref a ∧ (SqL K H a vs ∨ SqT K H a vs) ∧ Reps K ρ F H l vs := by
  unfold seD at e
  split at e
  · simp only [Rep] at p
    obtain ⟨a, vs, rfl, h1, h2⟩ := p
    cases e
    exact ⟨a, vs, rfl, .inr h1, h2⟩
  · simp only [Rep] at p
    obtain ⟨a, vs, rfl, h1, h2⟩ := p
    cases e
    exact ⟨a, vs, rfl, .inl (h1.sq K F H), h2⟩
  · cases e
theorem ss_ext {x : Str} {ap cp p1 : Pos} (hx : slotR c x = some n) (hl : (ap.endLine == cp.line) = true) (hs : isStar e = false) (ha : SE g c e i) : SS g c (.Expr (.Call (.Attribute (.Name x p1) "extend" ap) [e] [] cp) pos) (.ext n i) := by
  obtain ⟨t, h1, h2⟩ := ha
  obtain ⟨k1, k2, k3⟩ := slotR_of hx
  obtain ⟨o1, o2, _⟩ := okName_of k3
  refine ⟨L2.tDrop (L2.tBM g.K "list" (rExtA g.K) (L2.tVar n) (L2.tCons t L2.tNil)), fun X hX _ => ?_, fun b σV ρ F H s Dn rl h => ?_⟩
  · rw [← hX.K]
    exact L2.ps_expr (L2.pe_bm PySem.F.plainAttrs_list PySem.F.slot_list_extend PySem.F.type_list_extend mt_extA (L2.pe_var (by rw [hX.N]; exact k1) (by rw [hX.sc]; exact k2) o1 o2) (L2.pa_cons (h1 X hX) L2.pa_nil (star_no hs _ _))
      (by rfl) (by rw [star_no hs]; rfl) hl (star_no hs _ _) (by rfl)) (by rfl)
  · simp only [evS] at h
    obtain ⟨hL, h3⟩ := h.ite
    unfold isL at hL
    split at hL
    · rename_i l0 el0
      obtain ⟨a, vs, w1, w2⟩ := rl.own n l0 el0
      refine ⟨.ref a, w1, tyl w2.at_, ?_⟩
      refine WS.step rl h3 (T := fun Q' => t σV H Q') (fun Q' q => h2 _ _ _ _ _ _ _ rl q) fun y s1 v ρ1 F1 H1 _ e1 r1 p1 q1 => ?_
      split at q1
      · rename_i l el
        split at q1
        · rename_i z ez
          obtain ⟨hz, q2⟩ := q1.ite
          obtain ⟨a', vs', w3, w4⟩ := r1.own n l el
          rw [w1] at w3
          cases w3
          obtain ⟨d, us, rfl, w5, w6⟩ := seD_rep p1 ez
          obtain ⟨r2, x2⟩ := r1.setOwn (l' := l ++ z) (ws := vs' ++ us) el w1 w4 (Reps.append w4.reps w6)
          refine ⟨a, d, vs', us, rfl, rfl, w4.at_, w5, ?_, q2 σV ρ1 F1 _ x2 r2⟩
          rw [w4.reps.length, w6.length]; exact hz
        · exact q1.elim
      · rename_i m em
        obtain ⟨u, w3, w4⟩ := r1.val n _ em
        rw [w1] at w3
        cases w3
        simp only [Rep] at w4
        obtain ⟨c', w5, w6⟩ := w4
        cases w6
        have hin : a ∈ ρ1 := List.mem_of_getElem? w5
        rcases e1.rn a hin with z | z
        · exact (w2.nr z).elim
        · rw [w2.at_] at z; cases z
      · exact q1.elim
    · rename_i m em
      obtain ⟨u, w1, w2⟩ := rl.val n _ em
      simp only [Rep] at w2
      obtain ⟨a, w3, rfl⟩ := w2
      split at hL
      · rename_i l0 em0
        obtain ⟨vs0, w5, _⟩ := rl.atL w3 em0
        refine ⟨.ref a, w1, tyl w5, ?_⟩
        refine WS.step rl h3 (T := fun Q' => t σV H Q') (fun Q' q => h2 _ _ _ _ _ _ _ rl q) fun y s1 v ρ1 F1 H1 _ e1 r1 p1 q1 => ?_
        split at q1
        · rename_i l el
          obtain ⟨a', vs', z3, z4⟩ := r1.own n l el
          rw [w1] at z3
          cases z3
          exact (z4.nr (List.mem_of_getElem? (e1.pre m a w3))).elim
        · rename_i m' em'
          obtain ⟨u, z3, z4⟩ := r1.val n _ em'
          rw [w1] at z3
          cases z3
          simp only [Rep] at z4
          obtain ⟨c', z5, z6⟩ := z4
          cases z6
          split at q1
          · rename_i l el
            split at q1
            · rename_i z ez
              obtain ⟨hz, q2⟩ := q1.ite
              obtain ⟨vs', z8, z9⟩ := r1.atL z5 el
              obtain ⟨d, us, rfl, k5, k6⟩ := seD_rep p1 ez
              have hm : a ∈ ρ1 := List.mem_of_getElem? z5
              refine ⟨a, d, vs', us, rfl, rfl, z8, k5, ?_, q2 σV ρ1 F1 _ ((exE_set hm z8).toS r1) (r1.setM z5 z8 (Reps.append z9 k6) (List.getElem?_eq_some_iff.mp el).1)⟩
              rw [z9.length, k6.length]; exact hz
            · exact q1.elim
          · exact q1.elim
        · exact q1.elim
      · cases hL
    · cases hL
end
end Ev


set_option Elab.async false
set_option linter.all false
set_option maxRecDepth 100000
set_option maxHeartbeats 1000000
/-! EvM: statements, the rest. -/
namespace Ev
open PySem
open L2 (V Hp HO SqL SqT Rd upd upd_same upd_ne Same TE VK TS Ends PE PT PW PA PI PG PS PSs TG XK Sp FnOk Binds Room CX0 E0 Cx)
section
variable {g : Gd} {c : Cc} {pos py : Pos} {tgE e e2 e3 it elt : Expr} {st : Stmt} {sts a2 b2 : List Stmt} {i i2 i3 el : E} {tg : Tg} {ta tb : Ts} {t0 : T} {ii : I} {cn : B} {n : Nat}
theorem ss_ex (hs : ∀ t l env, swapsWith e t l env = pure false) (ha : SE g c e i) : SS g c (.Expr e pos) (.ex i) := by
  obtain ⟨t, h1, h2⟩ := ha
  refine ⟨L2.tDrop t, fun X hX _ => L2.ps_expr (h1 X hX) (hs _ _ _), fun b σV ρ F H s Dn rl h => ?_⟩
  simp only [evS] at h
  exact WS.step rl h (T := fun Q' => t σV H Q') (fun Q' q => h2 _ _ _ _ _ _ _ rl q) fun y s1 v ρ1 F1 H1 _ e1 r1 p1 q1 => q1.nx r1
theorem ss_ret (ha : SE g c e i) : SS g c (.Return (some e) pos) (.ret i) := by
  obtain ⟨t, h1, h2⟩ := ha
  refine ⟨L2.tRet t, fun X hX _ => L2.ps_ret (h1 X hX), fun b σV ρ F H s Dn rl h => ?_⟩
  simp only [evS] at h
  refine WS.part rl h (T := fun Q' => t σV H Q') (fun Q' q => h2 _ _ _ _ _ _ _ rl q) fun y s1 v ρ1 F1 H1 _ e1 r1 p1 q1 => ?_
  exact q1 σV v ρ1 F1 H1 ExS.refl r1 p1
theorem ss_rtv {x : Str} (hx : slotR c x = some n) : SS g c (.Return (some (.Name x py)) pos) (.rtv n) := by
  obtain ⟨k1, k2, k3⟩ := slotR_of hx
  obtain ⟨o1, o2, _⟩ := okName_of k3
  refine ⟨L2.tRet (L2.tVar n), fun X hX _ => L2.ps_ret (L2.pe_var (by rw [hX.N]; exact k1) (by rw [hX.sc]; exact k2) o1 o2), fun b σV ρ F H s Dn rl h => ?_⟩
  simp only [evS] at h
  split at h
  · rename_i d e
    obtain ⟨v, q, p⟩ := rl.val n d e
    exact ⟨v, q, h σV v ρ F H ExS.refl rl p⟩
  · rename_i l e
    obtain ⟨a, vs, q, o⟩ := rl.own n l e
    have r1 : Rl g.K g.Tb b σV ρ F H { s with σ := s.σ.set n .un } := rl.slots (by simp) fun j x h => by
      rcases get_set h with ⟨rfl, z⟩ | ⟨ne, z⟩
      · exact .inl z
      · exact .inr (.inl z)
    refine ⟨_, q, h σV (.ref a) ρ F H ExS.refl r1 ⟨a, vs, rfl, o, fun j l' e1 e2 => ?_⟩⟩
    rcases get_set e1 with ⟨rfl, z⟩ | ⟨ne, z⟩
    · cases z
    · exact ne (rl.apart n j l l' a e z q e2)
  · exact h.elim
theorem ss_retn : SS g c (.Return none pos) .retn := ⟨L2.tRetN, fun _ _ _ => L2.ps_retN, fun b σV ρ F H s Dn rl h => by
  simp only [evS] at h
  exact h σV .non ρ F H ExS.refl rl (by simp only [RepR, Rep])⟩
theorem ss_pass : SS g c (.Pass pos) .pass := ⟨_, fun _ _ _ => L2.ps_pass, fun b σV ρ F H s Dn rl h => by
  simp only [evS] at h
  exact h.nx rl⟩
theorem ss_brk : SS g c (.Break pos) .brk := ⟨_, fun _ _ _ => L2.ps_break, fun b σV ρ F H s Dn rl h => by
  simp only [evS] at h
  exact h σV ρ F H ExS.refl rl⟩
theorem ss_cnt : SS g c (.Continue pos) .cnt := ⟨_, fun _ _ _ => L2.ps_continue, fun b σV ρ F H s Dn rl h => by
  simp only [evS] at h
  exact h σV ρ F H ExS.refl rl⟩
theorem sss_nil : SSs g c [] .nil := ⟨_, fun _ _ _ => L2.pss_nil, fun b σV ρ F H s Dn rl h => by
  simp only [evSs] at h
  exact h.nx rl⟩
/-- a statement ahead of others -/
theorem ws_seq {K : PySem.W.Frag} {Tb : Addr → Prop} {b : Bx} {ρ : List Addr} {F : Addr → Prop} {H : Hp} {Dn : Ends} {r : Res (Out × S)} {f : S → Res (Out × S)} {N : L2.St → Hp → Prop}
    (h : WS K Tb b ρ F H Dn (r.b2 fun o s => match o with | .nx => f s | o => .ok (o, s)))
    (hn : ∀ s1 σV1 ρ1 F1 H1, r = .ok (.nx, s1) → ExS ρ F H ρ1 F1 H1 → Rl K Tb b σV1 ρ1 F1 H1 s1 → WS K Tb b ρ1 F1 H1 Dn (f s1) → N σV1 H1) : WS K Tb b ρ F H { Dn with nx := N } r := by
  cases r with
  | exc _ => exact h.elim
  | bad => exact h.elim
  | ok p =>
    obtain ⟨o, s1⟩ := p
    cases o with
    | nx => exact fun σV1 ρ1 F1 H1 x q => hn s1 σV1 ρ1 F1 H1 rfl x q (WS.later h x)
    | brk => exact h
    | cnt => exact h
    | ret rv => exact h
theorem sss_cons (ha : SS g c st t0) (hb : SSs g c sts ta) : SSs g c (st :: sts) (.cons t0 ta) := by
  obtain ⟨t, h1, h2⟩ := ha
  obtain ⟨u, h3, h4⟩ := hb
  refine ⟨L2.tSeq t u, fun X hX hp => L2.pss_cons (h1 X hX hp) (h3 X hX hp), fun b σV ρ F H s Dn rl h => ?_⟩
  simp only [evSs] at h
  exact h2 b σV ρ F H s { Dn with nx := fun σ' H' => u Dn σ' H' } rl (ws_seq h fun s1 σV1 ρ1 F1 H1 _ x r1 w => h4 b σV1 ρ1 F1 H1 s1 Dn r1 w)
theorem ss_if {t1 : B} (hc : SB g c e t1) (ha : SSs g c a2 ta) (hb : SSs g c b2 tb) : SS g c (.If e a2 b2 pos) (.iff t1 ta tb) := by
  obtain ⟨t, h1, h2⟩ := hc
  obtain ⟨u, h3, h4⟩ := ha
  obtain ⟨w, h5, h6⟩ := hb
  refine ⟨L2.tIfS t u w, fun X hX hp => L2.ps_if (h1 X hX) (h3 X hX hp) (h5 X hX hp), fun b σV ρ F H s Dn rl h => ?_⟩
  simp only [evS] at h
  refine WS.part rl h (T := fun Q' => t σV H Q') (fun Q' q => h2 _ _ _ _ _ _ _ rl q) fun k s1 k' ρ1 F1 H1 _ e1 r1 p1 q1 => ?_
  subst p1
  cases k' with
  | true => rw [if_pos rfl]; exact h4 _ _ _ _ _ _ _ r1 q1
  | false => rw [if_neg (by decide)]; exact h6 _ _ _ _ _ _ _ r1 q1
/-- one turn of a loop -/
theorem ws_turn {K : PySem.W.Frag} {Tb : Addr → Prop} {b : Bx} {ρ : List Addr} {F : Addr → Prop} {H : Hp} {Dn : Ends} {r : Res (Out × S)} {f : S → Res (Out × S)} {N : L2.St → Hp → Prop}
    (h : WS K Tb b ρ F H Dn (r.b2 fun o s => match o with | .nx => f s | .cnt => f s | .brk => .ok (.nx, s) | .ret r => .ok (.ret r, s)))
    (hn : ∀ s1 σV1 ρ1 F1 H1, ExS ρ F H ρ1 F1 H1 → Rl K Tb b σV1 ρ1 F1 H1 s1 → WS K Tb b ρ1 F1 H1 Dn (f s1) → N σV1 H1) : WS K Tb b ρ F H { Dn with nx := N, ct := N, bk := Dn.nx } r := by
  cases r with
  | exc _ => exact h.elim
  | bad => exact h.elim
  | ok p =>
    obtain ⟨o, s1⟩ := p
    cases o with
    | nx => exact fun σV1 ρ1 F1 H1 x q => hn s1 σV1 ρ1 F1 H1 x q (WS.later h x)
    | brk => exact h
    | cnt => exact fun σV1 ρ1 F1 H1 x q => hn s1 σV1 ρ1 F1 H1 x q (WS.later h x)
    | ret rv => exact h
theorem ss_fr (hi : SI g c tgE it ii) (hset : isSet it = false) (hg : STg g c tgE tg) (hb : SSs g c a2 ta) : SS g c (.For tgE it a2 [] pos) (.fr tg ii ta) := by
  obtain ⟨wi, i1, i2⟩ := hi
  obtain ⟨gt, g1, g2⟩ := hg
  obtain ⟨u, h3, h4⟩ := hb
  refine ⟨L2.tFor wi gt u, fun X hX hp => L2.ps_for hp hX.calm (i1 X hX) (g1 X hX) (h3 X hX hp) (set_iter hset _), fun b σV ρ F H s Dn rl h => ?_⟩
  simp only [evS] at h
  refine WS.part rl h (T := fun Q' => wi σV H Q') (fun Q' q => i2 _ _ _ _ _ _ _ rl q) fun l s1 J ρ1 F1 H1 _ x1 r1 itok q1 => ?_
  obtain ⟨G, Y, w, hG, hY⟩ := itok.ex
  let stp : D → S → Res (Out × S) := fun x s => (opt (asgT tg (.val x) s.σ)).bind fun σ => evSs g.C g.D ta { s with σ := σ }
  refine L2.for_it w (fun n σc Hc => ∃ ρ F t, ExS ρ1 F1 H1 ρ F Hc ∧ Rl g.K g.Tb b σc ρ F Hc t ∧ WS g.K g.Tb b ρ F Hc Dn (forL stp (l.drop n) t)) ⟨ρ1, F1, s1, ExS.refl, r1, q1⟩ (fun n σc Hc _ ⟨ρ, F, t, x, _⟩ => hG ρ F Hc x) ?_ ?_
  · rintro n y σc Hc Hc' hn ⟨ρ, F, t, x, r, hw⟩ hy
    have dn : l[n]? = some l[n] := by simp [hn]
    obtain ⟨sm, rep⟩ := hY ρ F Hc n y Hc' l[n] x hy dn
    have dr : l.drop n = l[n] :: l.drop (n + 1) := List.drop_eq_getElem_cons hn
    rw [dr] at hw
    simp only [forL] at hw
    have hw2 : WS g.K g.Tb b ρ F Hc' Dn ((stp l[n] t).b2 fun o s => match o with | .nx => forL stp (l.drop (n + 1)) s | .cnt => forL stp (l.drop (n + 1)) s | .brk => .ok (.nx, s) | .ret r => .ok (.ret r, s)) := WS.later hw (ExS.same sm)
    have r' := r.same sm
    cases z : asgT tg (.val l[n]) t.σ with
    | none =>
      have : stp l[n] t = .bad := by show (opt (asgT tg (.val l[n]) t.σ)).bind _ = _; rw [z]; rfl
      rw [this] at hw2
      exact hw2.elim
    | some σ1 =>
      have e9 : stp l[n] t = evSs g.C g.D ta { t with σ := σ1 } := by show (opt (asgT tg (.val l[n]) t.σ)).bind _ = _; rw [z]; rfl
      rw [e9] at hw2
      refine g2 b σc ρ F Hc' t l[n] y σ1 _ r' rep z fun σV2 rl2 o2 l2 => ?_
      refine h4 b σV2 ρ F Hc' { t with σ := σ1 } _ rl2 (ws_turn hw2 fun s2 σV3 ρ3 F3 H3 x3 r3 w3 => ?_)
      exact ⟨ρ3, F3, s2, (x.trans (ExS.same sm)).trans x3, r3, w3⟩
  · rintro σc Hc ⟨ρ, F, t, x, r, hw⟩
    rw [List.drop_length] at hw
    simp only [forL] at hw
    exact hw.nx r
theorem ss_wh {t1 : B} (hc : SB g c e t1) (hb : SSs g c a2 ta) : SS g c (.While e a2 [] pos) (.wh t1 ta) := by
  obtain ⟨tc, h1, h2⟩ := hc
  obtain ⟨u, h3, h4⟩ := hb
  refine ⟨L2.tWhile tc u, fun X hX hp => L2.ps_while hp (h1 X hX) (h3 X hX hp), fun b σV ρ F H s Dn rl h => ?_⟩
  simp only [evS] at h
  refine ⟨fun m σc Hc => ∃ ρ F t, Rl g.K g.Tb b σc ρ F Hc t ∧ WS g.K g.Tb b ρ F Hc Dn (whL (evB g.C g.D t1) (evSs g.C g.D ta) m t), ⟨whMost, ρ, F, s, rl, h⟩, ?_⟩
  rintro m σc Hc ⟨ρ, F, t, r, hw⟩
  cases m with
  | zero => exact hw.elim
  | succ m =>
    simp only [whL] at hw
    refine WS.part r hw (T := fun Q' => tc σc Hc Q') (fun Q' q => h2 _ _ _ _ _ _ _ r q) fun k s1 k' ρ1 F1 H1 _ e1 r1 p1 q1 => ?_
    subst p1
    cases k' with
    | false => rw [if_neg (by decide)] at q1 ⊢; exact q1.nx r1
    | true =>
      rw [if_pos rfl] at q1 ⊢
      refine ⟨fun σ' H' => ∃ ρ F t, Rl g.K g.Tb b σ' ρ F H' t ∧ WS g.K g.Tb b ρ F H' Dn (whL (evB g.C g.D t1) (evSs g.C g.D ta) m t), fun σ' H' hN => ⟨m, Nat.lt_succ_self m, hN⟩, ?_⟩
      exact h4 b σc ρ1 F1 H1 s1 _ r1 (ws_turn q1 fun s2 σV3 ρ3 F3 H3 x3 r3 w3 => ⟨ρ3, F3, s2, r3, w3⟩)
end
end Ev


set_option Elab.async false
set_option linter.all false
set_option maxRecDepth 100000
set_option maxHeartbeats 1000000
/-! EvR: several names stored at once. -/
namespace Ev
open PySem
open L2 (V Hp HO SqL SqT Rd upd upd_same upd_ne Same TE VK TS Ends PE PT PW PA PI PG PS PSs TG XK Sp FnOk Binds Room CX0 E0 Cx)
section
variable {g : Gd} {c : Cc} {pos : Pos} {e e2 e3 : Expr} {i i2 i3 : E} {n m k : Nat}
theorem XOk.rf {c c' : Cc} {X : Cx} (h : XOk g c X) (h1 : c'.N = c.N) (h2 : c'.sc = c.sc) (h3 : c'.fn = c.fn) (h4 : c'.gl = c.gl) : XOk g c' X where
  P := h.P
  w := h.w
  K := h.K
  mg := h.mg
  base := h.base
  N := by rw [h1]; exact h.N
  nd := by rw [h1]; exact h.nd
  sc := by rw [h2]; exact h.sc
  fn := by rw [h3]; exact h.fn
  calm := h.calm
  room := by rw [h4]; exact h.room
  code := by rw [h4]; exact h.code
theorem cR_eq (c : Cc) (x : Str) : (cR c x).N = c.N ∧ (cR c x).sc = c.sc ∧ (cR c x).fn = c.fn ∧ (cR c x).gl = c.gl ∧ (cR c x).gt = c.gt := by
  unfold cR
  split <;> exact ⟨rfl, rfl, rfl, rfl, rfl⟩
theorem SE.cR {x : Str} (h : SE g (cR c x) e i) : SE g c e i := by
  obtain ⟨t, h1, h2⟩ := h
  obtain ⟨k1, k2, k3, k4, _⟩ := cR_eq c x
  exact ⟨t, fun X hX => h1 X (hX.rf k1 k2 k3 k4), h2⟩
theorem SA.cR {x : Str} (h : SA g (cR c x) e i) : SA g c e i := by
  obtain ⟨t, h1, h2⟩ := h
  obtain ⟨k1, k2, k3, k4, _⟩ := cR_eq c x
  exact ⟨t, fun X hX => h1 X (hX.rf k1 k2 k3 k4), h2⟩
theorem locO_of {x : Str} {i : Nat} (h : locO c x = some i) : c.N[i]? = some x ∧ c.sc.names.lookup x = some .local := by
  unfold locO at h
  split at h
  · exact ⟨(slotW_of h).1, by assumption⟩
  · cases h
theorem star_k {e : Expr} (h : isStar e = false) : ∀ p v, e ≠ .Starred v p := fun p v z => by subst z; cases h
theorem dd2 {x y : Str} (h : x ≠ y) : ([x, y] : List Str).eraseDups.length = 2 := by
  simp [List.eraseDups_cons, List.filter, Ne.symm h, beq_eq_false_iff_ne.mpr (Ne.symm h)]
theorem dd3 {x y z : Str} (h : x ≠ y) (h2 : x ≠ z) (h3 : y ≠ z) : ([x, y, z] : List Str).eraseDups.length = 3 := by
  simp [List.eraseDups_cons, List.filter, beq_eq_false_iff_ne.mpr (Ne.symm h), beq_eq_false_iff_ne.mpr (Ne.symm h2), beq_eq_false_iff_ne.mpr (Ne.symm h3)]
theorem par_sw {x y : Str} {a b : Expr} {px py pt : Pos} {kt k2 : Nat} {pt2 : Pos} {env : Env} (hk : env.blockKind = .function) (hx : env.kindOf x = some .local) (hy : env.kindOf y = some .local) (hn : x ≠ y) (hl : py.line = px.line)
    (hs : [a, b].any isStar = false) (hf : [a, b].all (foldedForSure 8) = false) (hc : [a, b].all (constantsAlone 8) = false) :
    swappedStores [.Tuple [.Name x px, .Name y py] kt pt] (.Tuple [a, b] k2 pt2) env = pure (some [x, y]) := by
  simp only [List.any_cons, List.any_nil, Bool.or_false, Bool.or_eq_false_iff] at hs
  unfold swappedStores
  simp only [pure_bind, List.length_cons, List.length_nil, hk, hf, hc, List.head?_cons, Option.map_some, Option.getD_some, Expr.pos, List.filterMap_cons, List.filterMap_nil, hx, hy, hl, beq_self_eq_true, Bool.and_self, if_true, dd2 hn]
  split
  · rename_i h
    exact absurd h (by decide)
  · split
    · rename_i h
      simp only [List.any_cons, List.any_nil, Bool.or_false, Bool.or_eq_true] at h
      rcases h with h | h
      · cases a <;> first | (cases h; done) | cases hs.1
      · cases b <;> first | (cases h; done) | cases hs.2
    · rfl
theorem par_sw3 {x y z : Str} {a b d : Expr} {px py pz pt : Pos} {kt k2 : Nat} {pt2 : Pos} {env : Env} (hk : env.blockKind = .function) (hx : env.kindOf x = some .local) (hy : env.kindOf y = some .local) (hz : env.kindOf z = some .local) (hn : x ≠ y) (hn2 : x ≠ z) (hn3 : y ≠ z) (hl : py.line = px.line) (hl2 : pz.line = px.line)
    (hs : [a, b, d].any isStar = false) (hf : [a, b, d].all (foldedForSure 8) = false) (hc : [a, b, d].all (constantsAlone 8) = false) :
    swappedStores [.Tuple [.Name x px, .Name y py, .Name z pz] kt pt] (.Tuple [a, b, d] k2 pt2) env = pure (some [x, y, z]) := by
  simp only [List.any_cons, List.any_nil, Bool.or_false, Bool.or_eq_false_iff] at hs
  unfold swappedStores
  simp only [pure_bind, List.length_cons, List.length_nil, hk, hf, hc, List.head?_cons, Option.map_some, Option.getD_some, Expr.pos, List.filterMap_cons, List.filterMap_nil, hx, hy, hz, hl, hl2, beq_self_eq_true, Bool.and_self, if_true, dd3 hn hn2 hn3]
  split
  · rename_i h
    exact absurd h (by decide)
  · split
    · rename_i h
      simp only [List.any_cons, List.any_nil, Bool.or_false, Bool.or_eq_true] at h
      rcases h with h | h | h
      · cases a <;> first | (cases h; done) | cases hs.1
      · cases b <;> first | (cases h; done) | cases hs.2.1
      · cases d <;> first | (cases h; done) | cases hs.2.2
    · rfl
theorem parB_of {c : Cc} {l l2 : Nat} {vs : List Expr} (h : parB c l l2 vs = true) : c.sc.kind = .function ∧ l2 = l ∧ vs.any isStar = false ∧ vs.all (foldedForSure 8) = false ∧ vs.all (constantsAlone 8) = false := by
  unfold parB isFun at h
  simp only [Bool.and_eq_true, Bool.not_eq_true', beq_iff_eq] at h
  obtain ⟨⟨⟨⟨h1, h2⟩, h3⟩, h4⟩, h5⟩ := h
  refine ⟨?_, h2, h3, h4, h5⟩
  split at h1
  · assumption
  · cases h1
theorem nd_ne {N : List Str} (hn : N.Nodup) {i j : Nat} {x y : Str} (h1 : N[i]? = some x) (h2 : N[j]? = some y) (h : i ≠ j) : x ≠ y := fun e => by
  subst e
  obtain ⟨k1, e1⟩ := List.getElem?_eq_some_iff.mp h1
  obtain ⟨k2, e2⟩ := List.getElem?_eq_some_iff.mp h2
  exact h ((List.getElem_inj hn).mp (e1.trans e2.symm))
theorem ss_par {x y : Str} {px py pt pt2 : Pos} {kt k2 : Nat} (hp : parB c px.line py.line [e, e2] = true) (hx : locO c x = some n) (hy : locO c y = some m) (hn : n ≠ m) (ha : SE g c e i) (hb : SE g c e2 i2) :
    SS g c (.Assign [.Tuple [.Name x px, .Name y py] kt pt] (.Tuple [e, e2] k2 pt2) pos) (.par n m i i2) := by
  obtain ⟨t, h1, h2⟩ := ha
  obtain ⟨t', h3, h4⟩ := hb
  obtain ⟨b1, b2, b3, b4, b5⟩ := parB_of hp
  obtain ⟨x1, x2⟩ := locO_of hx
  obtain ⟨y1, y2⟩ := locO_of hy
  have s1 : isStar e = false ∧ isStar e2 = false := by simpa using b3
  refine ⟨L2.tPar n m (L2.tCons t (L2.tCons t' L2.tNil)), fun X hX _ => ?_, fun b σV ρ F H s Dn rl h => ?_⟩
  · have kx : X.env.scope.names.lookup x = some .local := by rw [hX.sc]; exact x2
    have ky : X.env.scope.names.lookup y = some .local := by rw [hX.sc]; exact y2
    exact L2.ps_par hX.calm (by rw [hX.N]; exact hX.nd) (by rw [hX.N]; exact x1) (by rw [hX.N]; exact y1) hn kx ky (L2.pa_cons (h1 X hX) (L2.pa_cons (h3 X hX) L2.pa_nil (star_no s1.2 _ _)) (star_no s1.1 _ _))
      (par_sw (by unfold Env.blockKind; rw [hX.sc, b1]; rfl) kx ky (nd_ne hX.nd x1 y1 hn) b2 b3 b4 b5)
  · simp only [evS] at h
    refine WS.step rl h (T := fun Q' => t σV H Q') (fun Q' q => h2 _ _ _ _ _ _ _ rl q) fun v1 s1 w1 ρ1 F1 H1 _ e1 r1 p1 q1 => ?_
    refine WS.step r1 q1 (T := fun Q' => t' σV H1 Q') (fun Q' q => h4 _ _ _ _ _ _ _ r1 q) fun v2 s2 w2 ρ2 F2 H2 _ e2 r2 p2 q2 => ?_
    obtain ⟨⟨hi, hj⟩, q3⟩ := q2.ite
    refine ⟨w1, w2, rfl, ?_⟩
    have r3 := r2.put (rv := .val v1.fz) (v := w1) (Rep.mono (e2.toS r1) _ _ p1) hi
    have r4 := r3.put (rv := .val v2.fz) (v := w2) p2 (by simpa using hj)
    exact q3.nx r4
theorem ss_par3 {x y z : Str} {px py pz pt pt2 : Pos} {kt k2 : Nat} (hp : parB c px.line py.line [e, e2, e3] = true) (hl : pz.line = px.line) (hx : locO c x = some n) (hy : locO c y = some m) (hz : locO c z = some k) (hn : n ≠ m ∧ n ≠ k ∧ m ≠ k) (ha : SE g c e i) (hb : SE g c e2 i2) (hd : SE g c e3 i3) :
    SS g c (.Assign [.Tuple [.Name x px, .Name y py, .Name z pz] kt pt] (.Tuple [e, e2, e3] k2 pt2) pos) (.par3 n m k i i2 i3) := by
  obtain ⟨t, h1, h2⟩ := ha
  obtain ⟨t', h3, h4⟩ := hb
  obtain ⟨t2, h5, h6⟩ := hd
  obtain ⟨b1, b2, b3, b4, b5⟩ := parB_of hp
  obtain ⟨x1, x2⟩ := locO_of hx
  obtain ⟨y1, y2⟩ := locO_of hy
  obtain ⟨z1, z2⟩ := locO_of hz
  have s1 : isStar e = false ∧ isStar e2 = false ∧ isStar e3 = false := by simpa using b3
  refine ⟨L2.tPar3 n m k (L2.tCons t (L2.tCons t' (L2.tCons t2 L2.tNil))), fun X hX _ => ?_, fun b σV ρ F H s Dn rl h => ?_⟩
  · have kx : X.env.scope.names.lookup x = some .local := by rw [hX.sc]; exact x2
    have ky : X.env.scope.names.lookup y = some .local := by rw [hX.sc]; exact y2
    have kz : X.env.scope.names.lookup z = some .local := by rw [hX.sc]; exact z2
    exact L2.ps_par3 hX.calm (by rw [hX.N]; exact hX.nd) (by rw [hX.N]; exact x1) (by rw [hX.N]; exact y1) (by rw [hX.N]; exact z1) hn.1 hn.2.1 hn.2.2 kx ky kz (L2.pa_cons (h1 X hX) (L2.pa_cons (h3 X hX) (L2.pa_cons (h5 X hX) L2.pa_nil (star_no s1.2.2 _ _)) (star_no s1.2.1 _ _)) (star_no s1.1 _ _))
      (par_sw3 (by unfold Env.blockKind; rw [hX.sc, b1]; rfl) kx ky kz (nd_ne hX.nd x1 y1 hn.1) (nd_ne hX.nd x1 z1 hn.2.1) (nd_ne hX.nd y1 z1 hn.2.2) b2 hl b3 b4 b5)
  · simp only [evS] at h
    refine WS.step rl h (T := fun Q' => t σV H Q') (fun Q' q => h2 _ _ _ _ _ _ _ rl q) fun v1 s1 w1 ρ1 F1 H1 _ e1 r1 p1 q1 => ?_
    refine WS.step r1 q1 (T := fun Q' => t' σV H1 Q') (fun Q' q => h4 _ _ _ _ _ _ _ r1 q) fun v2 s2 w2 ρ2 F2 H2 _ e2 r2 p2 q2 => ?_
    refine WS.step r2 q2 (T := fun Q' => t2 σV H2 Q') (fun Q' q => h6 _ _ _ _ _ _ _ r2 q) fun v3 s3 w3 ρ3 F3 H3 _ e3 r3 p3 q3 => ?_
    obtain ⟨⟨hi, hj, hk⟩, q4⟩ := q3.ite
    refine ⟨w1, w2, w3, rfl, ?_⟩
    have r4 := r3.put (rv := .val v1.fz) (v := w1) (Rep.mono ((e2.trans e3).toS r1) _ _ p1) hi
    have r5 := r4.put (rv := .val v2.fz) (v := w2) (Rep.mono (e3.toS r2) _ _ p2) (by simpa using hj)
    have r6 := r5.put (rv := .val v3.fz) (v := w3) p3 (by simpa using hk)
    exact q4.nx r6
theorem par_sw0 {x y : Str} {a b : Expr} {px py pt : Pos} {kt k2 : Nat} {pt2 : Pos} {env : Env} (h : (env.kindOf x == some .local) = false ∨ (env.kindOf y == some .local) = false) :
    swappedStores [.Tuple [.Name x px, .Name y py] kt pt] (.Tuple [a, b] k2 pt2) env = pure none := by
  unfold swappedStores
  simp only [pure_bind, List.head?_cons, Option.map_some, Option.getD_some, Expr.pos, List.filterMap_cons, List.filterMap_nil]
  split
  · rfl
  · split
    · rfl
    · rcases h with h | h
      · simp only [h, Bool.false_and, Bool.false_eq_true, if_false]
        by_cases hh : (env.kindOf y == some NameKind.local && py.line == px.line) = true
        · simp [hh]
        · simp [hh]
      · simp only [h, Bool.false_and, Bool.false_eq_true, if_false]
        by_cases hh : env.kindOf x = some NameKind.local
        · simp [hh]
        · simp [hh]
theorem ss_parC {x y : Str} {px py pt pt2 : Pos} {kt k2 : Nat} (hs : [e, e2].any isStar = false) (hc : cellB c [x, y] = true) (hx : slotW c x = some n) (hy : slotW c y = some m) (ha : SE g c e i) (hb : SE g c e2 i2) :
    SS g c (.Assign [.Tuple [.Name x px, .Name y py] kt pt] (.Tuple [e, e2] k2 pt2) pos) (.par n m i i2) := by
  obtain ⟨t, h1, h2⟩ := ha
  obtain ⟨t', h3, h4⟩ := hb
  obtain ⟨gt, g1, g2⟩ := stg_tp (g := g) (pos := pt) (k := kt) (es := [.Name x px, .Name y py]) rfl rfl (stgs_cons rfl (stg_nm (pos := px) hx) (stgs_cons rfl (stg_nm (pos := py) hy) stgs_nil))
  have s1 : isStar e = false ∧ isStar e2 = false := by simpa using hs
  refine ⟨L2.tAsg (L2.tTup (L2.tCons t (L2.tCons t' L2.tNil))) gt, fun X hX _ => ?_, fun b σV ρ F H s Dn rl h => ?_⟩
  · refine L2.ps_asg (L2.pe_tup (L2.pa_cons (h1 X hX) (L2.pa_cons (h3 X hX) L2.pa_nil (star_no s1.2 _ _)) (star_no s1.1 _ _))) (g1 X hX) (by rfl) (par_sw0 ?_) (by rfl)
    unfold cellB at hc
    simp only [List.any_cons, List.any_nil, Bool.or_false, Bool.or_eq_true, Bool.not_eq_true'] at hc
    rcases hc with hc | hc
    · exact .inl (by show (X.env.scope.names.lookup x == some .local) = false; rw [hX.sc]; exact hc)
    · exact .inr (by show (X.env.scope.names.lookup y == some .local) = false; rw [hX.sc]; exact hc)
  · simp only [evS] at h
    refine WS.step rl h (T := fun Q' => t σV H Q') (fun Q' q => h2 _ _ _ _ _ _ _ rl q) fun v1 s1 w1 ρ1 F1 H1 _ e1 r1 p1 q1 => ?_
    refine WS.step r1 q1 (T := fun Q' => t' σV H1 Q') (fun Q' q => h4 _ _ _ _ _ _ _ r1 q) fun v2 s2 w2 ρ2 F2 H2 _ e2 r2 p2 q2 => ?_
    obtain ⟨⟨hi, hj⟩, q3⟩ := q2.ite
    refine ⟨by show 2 ≤ sizeLine; decide, fun p hp => ?_⟩
    have ea : asgT (.tp (.cons (.nm n) (.cons (.nm m) .nil))) (.val (.tup [v1.fz, v2.fz])) s2.σ = some ((s2.σ.set n (.val v1.fz)).set m (.val v2.fz)) := by
      simp only [asgT, asgTs, hi, if_true, Option.bind_some, List.length_set, hj]
    exact g2 b σV ρ2 F2 _ s2 _ _ _ _ (r2.same (same_upd hp)) (Rep.newT hp (Reps.cons (Rep.mono (e2.toS r1) _ _ p1) (Reps.one p2))) ea fun σV' r3 _ _ => q3 σV' ρ2 F2 _ (ExS.same (same_upd hp)) r3
end
end Ev


set_option Elab.async false
set_option linter.all false
set_option maxRecDepth 100000
set_option maxHeartbeats 4000000
/-! RvT: t[::-1] of a list, of a tuple. -/
namespace HT
open PySem PySem.Spec PyProof.Rows
section
variable {prog : Program} {w : World} {A : Around} {E : Value → Shared → Prop} {s : Shared}
theorem bk_adjust (n : Nat) : Builtin.Slice.sliceAdjust none none (-1) (n : Int) = ((n : Int) - 1, -1) := rfl
theorem bk_places (n : Nat) : Builtin.Slice.slicePlaces ((n : Int) - 1) (-1) (-1) = n := by
  unfold Builtin.Slice.slicePlaces
  rw [if_neg (by decide)]
  by_cases h : (n : Int) - 1 > -1
  · rw [if_pos h]
    simp only [Int.neg_neg, Int.ediv_one]
    omega
  · rw [if_neg h]
    omega
theorem bk_pick (xs : Array Value) : ((List.range xs.size).filterMap fun (k : Nat) => xs[((xs.size : Int) - 1 + (k : Int) * -1).toNat]?) = xs.toList.reverse := by
  apply List.ext_getElem?
  intro i
  have key : ∀ n, n ≤ xs.size → ((List.range n).filterMap fun (k : Nat) => xs[((xs.size : Int) - 1 + (k : Int) * -1).toNat]?) = xs.toList.reverse.take n := by
    intro n
    induction n with
    | zero => intro _; rfl
    | succ n ih =>
      intro hn
      rw [List.range_succ, List.filterMap_append, ih (by omega)]
      have e : ((xs.size : Int) - 1 + (n : Int) * -1).toNat = xs.size - 1 - n := by omega
      have hlt : xs.size - 1 - n < xs.size := by omega
      have e2 : xs[xs.size - 1 - n]? = some xs[xs.size - 1 - n] := Array.getElem?_eq_getElem hlt
      have hr : n < xs.toList.reverse.length := by simp; omega
      rw [List.take_succ_eq_append_getElem hr]
      congr 1
      show List.filterMap _ [n] = _
      rw [List.filterMap_cons, List.filterMap_nil, e, e2]
      simp
  rw [key xs.size (Nat.le_refl _), List.take_of_length_le (by simp)]
theorem bk_applied {sa : Addr} {va vb vc : Value} {n : Nat} {Q : Int × Int × Nat → Shared → Prop} (hsl : s.heap.IsSliceOf sa va vb vc) (pa : IsPart va none) (pb : IsPart vb none) (pc : IsPart vc (some (-1)))
    (h : Q ((n : Int) - 1, -1, n) s) : wpAny (model prog w) A (Builtin.Slice.sliceApplied (.ref sa) (pure (n : Int))) Q E s := by
  obtain ⟨ob, hob, cob, dob⟩ := id hsl
  unfold Builtin.Slice.sliceApplied Builtin.Slice.sliceFields
  refine wpAny_bind (wpAny_bind (wpAny_field hob dob (x := va) rfl (wpAny_bind (wpAny_field hob dob (x := vb) rfl (wpAny_bind (wpAny_field hob dob (x := vc) rfl (wpAny_pure ?_)))))))
  refine wpAny_bind (slicePart_ pc ?_)
  show wpAny _ _ (if ((-1 : Int) == 0) = true then _ else _) _ _ s
  rw [if_neg (by decide : ¬ ((-1 : Int) == 0) = true)]
  refine wpAny_bind (slicePart_ pa (wpAny_bind (slicePart_ pb (wpAny_bind (wpAny_pure ?_)))))
  show wpAny _ _ (match Builtin.Slice.sliceAdjust none none (-1) (n : Int) with | (lo, hi) => pure (lo, (-1 : Int), Builtin.Slice.slicePlaces lo hi (-1))) _ _ s
  rw [bk_adjust n]
  show wpAny _ _ (pure ((n : Int) - 1, (-1 : Int), Builtin.Slice.slicePlaces ((n : Int) - 1) (-1) (-1))) _ _ s
  rw [bk_places]
  exact wpAny_pure h
theorem bk_tuple {ta sa : Addr} {ar : Array Value} {va vb vc : Value} {Q : Value → Shared → Prop} (htu : IsTup s.heap ta ar) (hsl : s.heap.IsSliceOf sa va vb vc) (pa : IsPart va none) (pb : IsPart vb none) (pc : IsPart vc (some (-1)))
    (h : Q (.ref s.heap.objs.size) { s with heap := s.heap.push { cls := .type "tuple", data := .seq ar.toList.reverse.toArray } }) (hz : ar.size ≤ sizeLine) : wpAny (model prog w) A (getItem (.ref ta) (.ref sa)) Q E s := by
  have hok : sizeOk (.seq ar.toList.reverse.toArray) := by
    show ar.toList.reverse.toArray.size ≤ sizeLine
    simpa using hz
  obtain ⟨ob, hob, cob, dob⟩ := id hsl
  have hty : s.TypeIs (.ref sa) "slice" := ⟨ob, hob, cob⟩
  unfold getItem
  try with_reducible refine wpAny_holding ?_
  first | refine wpAny_bind (wpAny_pure ?_) | skip
  refine wpAny_bind (wpAny_sequenceKey htu.typeIs (by decide) ?_)
  refine wpAny_bind (wpAny_callSpecial?_slot (name := Str.ofString "__getitem__") htu.typeIs PyProof.Rows.slot_tuple_getitem (wpAny_call_entry PyProof.Rows.slot_tuple_getitem htu.typeIs entry_tuple_getitem ?_ (args_tuple_getitem _ _)))
  show wpAny _ _ (Builtin.Tuple.tupleItemsOf (.ref ta) >>= _) _ _ s
  refine wpAny_bind (tupleItemsOf_ htu ?_)
  refine wpAny_bind (wpAny_typeOf hty ?_)
  rw [if_pos (by decide)]
  refine wpAny_bind (bk_applied hsl pa pb pc ?_)
  have hno : ¬ ((((ar.size : Int) - 1) == 0 && (-1 : Int) == 1 && ar.size == ar.size) = true) := by
    intro q
    rw [Bool.and_eq_true, Bool.and_eq_true] at q
    exact absurd (eq_of_beq q.1.2) (by decide)
  show wpAny _ _ (if (((ar.size : Int) - 1) == 0 && (-1 : Int) == 1 && ar.size == ar.size) = true then _ else _) _ _ s
  rw [if_neg hno, bk_pick]
  exact wpAny_bind (m := Builtin.Tuple.tupleExact _) (wpAny_newObj_type (wpAny_pure ⟨_, rfl, wpAny_pure h⟩) hok)
end
end HT
namespace Ev
open PySem PySem.Spec PyProof.Rows
open L2 (V Hp HO SqL SqT Rd upd upd_same upd_ne Same TE VK PE PT PW PA PO XK Cx Inv tPart tUn rU tC EP)
def tRevT (K : PySem.W.Frag) (te : TE) : TE := fun σ H Q => te σ H fun x H1 => ∃ a xs, x = .ref a ∧ SqT K H1 a xs ∧ ∀ p, H1 p = none → Q (.ref p) (upd H1 p (.tup xs.reverse))
theorem pe_revT {X : Cx} {e : Expr} {te : TE} {k : Nat} {p1 p2 p3 pos : Pos} (he : PE X e te) : PE X (.Subscript e (.Slice none none (some (.UnaryOp .USub (.Constant (.int 1) k p1) p2)) p3) pos) (tRevT X.K te) := by
  refine ⟨fun pins s σ H Q I h => ?_⟩
  refine Subscript_ (L2.thn (he.run pins s σ H _ I h) fun v s1 ⟨x, H1, I1, r1, a, xs, ex, hx, q⟩ => ?_)
  subst ex
  cases r1
  have hst : PO X (some (.UnaryOp .USub (.Constant (.int 1) k p1) p2)) (tPart (tUn (rU fun i => .int (-i)) (tC (.int 1)))) := L2.po_some (L2.pe_un L2.un_neg L2.pe_int)
  refine wpAny_Slice (L2.thn (L2.po_none.run pins s1 σ H1 (fun o J => o = none ∧ J = H1) I1 ⟨rfl, rfl⟩) fun va s2 ⟨l, H2, I2, pa, el, e2⟩ => ?_)
  subst el e2
  refine L2.thn (L2.po_none.run pins s2 σ H2 (fun o J => o = none ∧ J = H2) I2 ⟨rfl, rfl⟩) fun vb s3 ⟨u, H3, I3, pb, eu, e3⟩ => ?_
  subst eu e3
  refine L2.thn (hst.run pins s3 σ H3 (fun o J => o = some (-1) ∧ J = H3) I3 ⟨1, rfl, -1, rfl, rfl, rfl⟩) fun vc s4 ⟨o, H4, I4, pc, eo, e4⟩ => ?_
  subst eo e4
  have I5 : Inv X pins σ H4 { s4 with heap := s4.heap.push { cls := .type "slice", data := .fields #[va, vb, vc] } } := I4.kept (t' := s4.toks) fun b ob z => Heap.get?_push_of_some _ z
  obtain ⟨its, r, ht, hz⟩ := I5.tuple hx
  have hlen := r.length
  show wpAny (model X.prog X.w) X.A (subscriptTail e (.Slice none none (some (.UnaryOp .USub (.Constant (.int 1) k p1) p2)) p3) (.ref a) (.ref s4.heap.objs.size)) (EP X pins σ Q) X.xe { s4 with heap := s4.heap.push { cls := .type "slice", data := .fields #[va, vb, vc] } }
  refine tail_any (ops := [.ref a, .ref s4.heap.objs.size]) ht.typeIs (PyProof.Rows.slot_tuple_getitem.lookup) ?_ (by with_unfolding_all rfl)
  refine HT.bk_tuple ht (Heap.IsSliceOf.new _ va vb vc) pa pb pc ?_ (by rw [List.size_toArray]; omega)
  refine ⟨.ref _, _, I5.laid (t' := s4.toks) (o := .tup xs.reverse) (fun b ob z => Heap.get?_push_of_some _ z) (Nat.le_refl _) ?_, rfl, q _ (I5.hok.fresh (Nat.le_refl _))⟩
  exact ⟨by rw [List.length_reverse]; exact hz, _, r.reverse, IsTup.new _ _⟩
end Ev


set_option Elab.async false
set_option linter.all false
set_option maxRecDepth 100000
set_option maxHeartbeats 4000000
/-! SrT: sorted of a list, of a tuple of data alike. -/
namespace HT
open PySem PySem.Calls PyProof.Rows PySem.W
section
variable {prog : Program} {w : World} {A : Around} {E : Value → Shared → Prop} {s : Shared}
theorem gather_tup {tp : Addr} {ws : List Value} {Q : List Value → Shared → Prop} (ht : IsTup s.heap tp ws.toArray) (hz : ws.length ≤ sizeLine)
    (h : Q ws { s with heap := (s.heap.push (seqObj "list" #[] 0)).update s.heap.objs.size (Obj.mapSeq (· ++ ws.toArray)) }) :
    wpAny (model prog w) A (collect (.ref tp)) Q E s := by
  obtain ⟨ob, hob, cob, k, dob⟩ := id ht
  unfold collect
  refine wpAny_bind (wpAny_runValue (codeAny_builtin entry_proto_collect' ?_))
  show wpAny _ _ (do again (.builtin "list.__iadd__" ⟨[← newList [], .ref tp], []⟩)) _ _ s
  refine wpAny_bind (wpAny_newList (wpAny_pure ⟨Code.quiet_builtin _ (by decide +kernel), codeAny_builtin entry_list_iadd' ?_⟩))
  show wpAny _ _ (Builtin.List.listExtendWith (.ref s.heap.objs.size) (.ref tp) (.ref s.heap.objs.size)) _ _ { s with heap := s.heap.push (seqObj "list" #[] 0) }
  unfold Builtin.List.listExtendWith
  have kob : (s.heap.push (seqObj "list" #[] 0)).get? tp = some ob := Heap.get?_push_of_some _ hob
  refine wpAny_bind (wpAny_typeOf (T := "tuple") ⟨ob, kob, cob⟩ ?_)
  have hT : (Value.type "tuple" == Value.type "tuple") = true := by rfl
  rw [if_pos (by rw [hT]; simp)]
  refine wpAny_bind (listItems_at kob dob ?_)
  refine wpAny_bind (listItems_at (xs := #[]) (n := 0) (Heap.get?_push_size _ rfl) rfl ?_)
  rw [if_neg (by simp)]
  have hfit : (#[] ++ ws.toArray).size ≤ sizeLine + 1 := by
    simp only [Array.size_append, List.size_toArray, List.length_nil]
    omega
  refine wpAny_bind (listUpdate_at (xs := #[]) (n := 0) (Heap.get?_push_size _ rfl) rfl ?_ (Nat.zero_le _) hfit)
  refine wpAny_pure ?_
  show wpAny (model prog w) A (do
      let ob ← load s.heap.objs.size
      match ob.data with
      | .seq us _ => pure us.toList
      | _ => unsupported "internal:collect") Q E _
  refine wpAny_bind (wpAny_load (get?_update_seq (Heap.get?_push_size _ rfl) _) ?_)
  show wpAny _ _ (pure ((#[] : Array Value) ++ ws.toArray).toList) Q E _
  refine wpAny_pure ?_
  have er : ((#[] : Array Value) ++ ws.toArray).toList = ws := by simp
  rw [er]
  exact h
/-- sorted, the items gathered in whatever way -/
theorem sorted_src {x : Value} {β : Type} {ws : List Value} {bs : List β} {enc : β → PyData} {R : Value → β → Prop} {Q : Value → Shared → Prop}
    (hg : ∀ {Q : List Value → Shared → Prop} {E : Value → Shared → Prop} {A : Around}, Q ws { s with heap := (s.heap.push (seqObj "list" #[] 0)).update s.heap.objs.size (Obj.mapSeq (· ++ ws.toArray)) } → wpAny (model prog w) A (collect x) Q E s)
    (ha : argsOk "sorted" ⟨[x], []⟩) (e : EachIs R ws bs) (er : EachIs (fun v b => ∃ as, Reads s.heap v (enc b) as) ws bs) (hal : AllAlike (bs.map enc)) (hk : Sortable (bs.map enc)) (hL : bs.length ≤ sizeLine) (hu : ∀ b, b ∈ bs → A.units + 2 + (enc b).depth < cLine)
    (h : ∀ out, out.length = bs.length → EachIs R out (bs.mergeSort (dataLe false enc)) → Q (.ref (s.heap.objs.size + 1)) { s with heap := sortedAll s.heap ws (List.toArray out) }) :
    wpAny (model prog w) A (call (.builtin "sorted") [x]) Q E s := by
  have lw : ws.length ≤ sizeLine := by rw [e.length]; exact hL
  have er2 : EachIs (fun v b => ∃ as, Reads (sortingHeap (copyHeap s.heap ws) (s.heap.objs.size + 1) ws) v (enc b) as) ws bs := er.mono fun _ _ ⟨as, r⟩ => ⟨as, PyProof.Rows.Reads.keeps (fun _ _ => sorting_copy_old) r⟩
  have S := SortsAt.data (prog := prog) (w := w) (A := A.in1.in1) (s := { s with heap := sortingHeap (copyHeap s.heap ws) (s.heap.objs.size + 1) ws }) (each_map (R := fun v d => ∃ as, Reads (sortingHeap (copyHeap s.heap ws) (s.heap.objs.size + 1) ws) v d as) enc er2) hal hk (bound_map hu)
  refine Calls.call_function_entry kind_sorted plain_sorted entry_sorted ha ?_
  unfold Builtin.«sorted»
  refine wpAny_bind (m := checkCount "sorted" 1 1 _) (wpAny_pure ?_)
  refine wpAny_bind (hg ?_)
  refine wpAny_bind (wpAny_newList ?_ lw)
  have en : ((s.heap.push (seqObj "list" #[] 0)).update s.heap.objs.size (Obj.mapSeq (· ++ ws.toArray))).objs.size = s.heap.objs.size + 1 := by
    rw [Heap.size_update, size_push']
  show wpAny _ _ _ _ _ { s with heap := copyHeap s.heap ws }
  rw [en]
  refine wpAny_bind (wpAny_holding (wpAny_call_entry slot_list_sort ⟨_, copyHeap_at s.heap ws, rfl⟩ entry_list_sort ?bd (args_list_sort _)))
  case bd =>
    show wpAny (model prog w) A.in1.in1 (Builtin.«list.sort» ⟨[.ref (s.heap.objs.size + 1)], []⟩) _ _ _
    refine wpAny_mono (list_sort_vals (P := fun f s2 => f = .done (.ret .none) ∧ Q (.ref (s.heap.objs.size + 1)) s2) (s := { s with heap := copyHeap s.heap ws }) (copyHeap_at s.heap ws) S lw ⟨rfl, ?_⟩) (fun f s2 hf => ?_) fun _ _ z => z
    · exact h _ (by rw [sortVals_length false rfl]; exact e.length) (sortVals_data false e er2 hal)
    · obtain ⟨rfl, q⟩ := hf
      exact ⟨_, rfl, wpAny_pure ⟨_, rfl, q⟩⟩
/-- .. data told apart by their first difference -/
theorem sorted_srcC {x : Value} {β : Type} {ws : List Value} {bs : List β} {enc : β → PyData} {R : Value → β → Prop} {Q : Value → Shared → Prop}
    (hg : ∀ {Q : List Value → Shared → Prop} {E : Value → Shared → Prop} {A : Around}, Q ws { s with heap := (s.heap.push (seqObj "list" #[] 0)).update s.heap.objs.size (Obj.mapSeq (· ++ ws.toArray)) } → wpAny (model prog w) A (collect x) Q E s)
    (ha : argsOk "sorted" ⟨[x], []⟩) (e : EachIs R ws bs) (er : EachIs (fun v b => ∃ as, Reads s.heap v (enc b) as) ws bs) (hal : Kz.AllCm (bs.map enc)) (hk : Sortable (bs.map enc)) (hL : bs.length ≤ sizeLine) (hu : ∀ b, b ∈ bs → A.units + 2 + (enc b).depth < cLine)
    (h : ∀ out, out.length = bs.length → EachIs R out (bs.mergeSort (dataLe false enc)) → Q (.ref (s.heap.objs.size + 1)) { s with heap := sortedAll s.heap ws (List.toArray out) }) :
    wpAny (model prog w) A (call (.builtin "sorted") [x]) Q E s := by
  have lw : ws.length ≤ sizeLine := by rw [e.length]; exact hL
  have er2 : EachIs (fun v b => ∃ as, Reads (sortingHeap (copyHeap s.heap ws) (s.heap.objs.size + 1) ws) v (enc b) as) ws bs := er.mono fun _ _ ⟨as, r⟩ => ⟨as, PyProof.Rows.Reads.keeps (fun _ _ => sorting_copy_old) r⟩
  have er3 := each_map (R := fun v d => ∃ as, Reads (sortingHeap (copyHeap s.heap ws) (s.heap.objs.size + 1) ws) v d as) enc er2
  have S := Kz.sorts_cm (prog := prog) (w := w) (A := A.in1.in1) (s := { s with heap := sortingHeap (copyHeap s.heap ws) (s.heap.objs.size + 1) ws }) er3 hal hk (bound_map hu)
  refine Calls.call_function_entry kind_sorted plain_sorted entry_sorted ha ?_
  unfold Builtin.«sorted»
  refine wpAny_bind (m := checkCount "sorted" 1 1 _) (wpAny_pure ?_)
  refine wpAny_bind (hg ?_)
  refine wpAny_bind (wpAny_newList ?_ lw)
  have en : ((s.heap.push (seqObj "list" #[] 0)).update s.heap.objs.size (Obj.mapSeq (· ++ ws.toArray))).objs.size = s.heap.objs.size + 1 := by
    rw [Heap.size_update, size_push']
  show wpAny _ _ _ _ _ { s with heap := copyHeap s.heap ws }
  rw [en]
  refine wpAny_bind (wpAny_holding (wpAny_call_entry slot_list_sort ⟨_, copyHeap_at s.heap ws, rfl⟩ entry_list_sort ?bd (args_list_sort _)))
  case bd =>
    show wpAny (model prog w) A.in1.in1 (Builtin.«list.sort» ⟨[.ref (s.heap.objs.size + 1)], []⟩) _ _ _
    refine wpAny_mono (list_sort_vals (P := fun f s2 => f = .done (.ret .none) ∧ Q (.ref (s.heap.objs.size + 1)) s2) (s := { s with heap := copyHeap s.heap ws }) (copyHeap_at s.heap ws) S lw ⟨rfl, ?_⟩) (fun f s2 hf => ?_) fun _ _ z => z
    · exact h _ (by rw [sortVals_length false rfl]; exact e.length) (Kz.vals_cm false e er3 hal)
    · obtain ⟨rfl, q⟩ := hf
      exact ⟨_, rfl, wpAny_pure ⟨_, rfl, q⟩⟩
end
end HT


set_option Elab.async false
set_option linter.all false
set_option maxRecDepth 100000
set_option maxHeartbeats 1000000
/-! SrU: sorted, as a rule over data. -/
namespace Ev
open PySem PySem.W
open L2 (V Hp HO SqL SqT Rd upd upd_same upd_ne Same TE VK PE PT PW PA XK Sp FnOk Binds Room CX0 E0 Cx OpR CallR R2 Vals RelV)
abbrev encD (b : V × D) : PyData := toPy b.2
def rSrt (K : PySem.W.Frag) : List V → Hp → VK → Prop := fun xs H Q => ∃ (a : Addr) (bs : List (V × D)), xs = [.ref a] ∧ (SqL K H a (bs.map (·.1)) ∨ SqT K H a (bs.map (·.1))) ∧ (∀ b, b ∈ bs → L2.Dp K H b.1 (toPy b.2)) ∧ (AllAlike (bs.map encD) ∨ Kz.AllCm (bs.map encD)) ∧ Sortable (bs.map encD) ∧
  (∀ b, b ∈ bs → (toPy b.2).depth ≤ 60) ∧ ∀ p, H p = none → Q (.ref p) (upd H p (.lst ((bs.mergeSort (dataLe false encD)).map (·.1))))
theorem each_vals : ∀ {bs : List (V × D)} {us : List Value}, Vals (bs.map (·.1)) us → EachIs (fun u (b : V × D) => RelV b.1 u) us bs
  | [], _, h => by cases h; exact .nil
  | b :: bs, _, h => by
    cases h with
    | cons h1 h2 => exact .cons h1 (each_vals h2)
theorem vals_each : ∀ {bs : List (V × D)} {us : List Value}, EachIs (fun u (b : V × D) => RelV b.1 u) us bs → Vals (bs.map (·.1)) us
  | _, _, .nil => .nil
  | _, _, .cons h t => .cons h (vals_each t)
theorem cr_srt {X : Cx} (hu : X.A.units + 100 < cLine) : CallR X (.builtin "sorted") (rSrt X.K) := by
  intro pins s σ H vs us Q I r h
  obtain ⟨a, bs, rfl, hs, hd, hal, hk, hz, q⟩ := h
  obtain ⟨u, rfl, ru⟩ := L2.vals1 r
  obtain rfl : u = Value.ref a := ru
  have fin : ∀ its : List Value, Vals (bs.map (·.1)) its → its.length ≤ sizeLine → (∀ {Q : List Value → Shared → Prop} {E : Value → Shared → Prop} {A : Around}, Q its { s with heap := (s.heap.push (PyProof.Rows.seqObj "list" #[] 0)).update s.heap.objs.size (Obj.mapSeq (· ++ its.toArray)) } → wpAny (model X.prog X.w) A (collect (.ref a)) Q E s) →
      wpAny (model X.prog X.w) X.A (call (.builtin "sorted") [.ref a]) (L2.EP X pins σ Q) X.xe s := by
    intro its rv hl hg
    have e1 := each_vals rv
    have er : EachIs (fun v (b : V × D) => ∃ as, Reads s.heap v (encD b) as) its bs := (each_mem e1).mono fun v b ⟨rb, hb⟩ => L2.Dp.reads I _ _ _ (hd b hb) rb
    have hlen : bs.length ≤ sizeLine := by rw [← e1.length]; exact hl
    have fin2 : ∀ out : List Value, out.length = bs.length → EachIs (fun u (b : V × D) => RelV b.1 u) out (bs.mergeSort (dataLe false encD)) → L2.EP X pins σ Q (.ref (s.heap.objs.size + 1)) { s with heap := PyProof.Rows.sortedAll s.heap its (List.toArray out) } := fun out ho hout => ?_
    · rcases hal with hal | hal
      · exact HT.sorted_src hg (PyProof.Rows.args_sorted1 _) e1 er hal hk hlen (fun b hb => by have := hz b hb; show X.A.units + 2 + (toPy b.2).depth < cLine; omega) fin2
      · exact HT.sorted_srcC hg (PyProof.Rows.args_sorted1 _) e1 er hal hk hlen (fun b hb => by have := hz b hb; show X.A.units + 2 + (toPy b.2).depth < cLine; omega) fin2
    obtain ⟨n, hn⟩ := PyProof.Rows.sortedAll_at s.heap its out.toArray
    refine ⟨.ref _, upd H _ (.lst ((bs.mergeSort (dataLe false encD)).map (·.1))), I.laid (t' := s.toks) (fun b u z => PyProof.Rows.sortedAll_old z) (Nat.le_succ _) ⟨?_, out, n, vals_each hout, hn⟩, rfl, q _ (I.hok.fresh (Nat.le_succ _))⟩
    rw [List.length_map, List.length_mergeSort]
    exact hlen
  rcases hs with hs | hs
  · obtain ⟨its, rv, hl, hz2⟩ := I.list hs
    exact fin its rv (by rw [← rv.length]; exact hz2) fun h => PyProof.Rows.collect_list hl.isList h (by rw [← rv.length]; exact hz2)
  · obtain ⟨its, rv, hl, hz2⟩ := I.tuple hs
    exact fin its rv (by rw [← rv.length]; exact hz2) fun h => HT.gather_tup hl (by rw [← rv.length]; exact hz2) h
section
variable {K : PySem.W.Frag} {ρ : List Addr} {F : Addr → Prop} {H : Hp}
theorem Reps.pairs : ∀ {ds : List D} {vs : List V}, Reps K ρ F H ds vs → ∃ bs : List (V × D), bs.map (·.1) = vs ∧ bs.map (·.2) = ds ∧ ∀ b, b ∈ bs → Rep K ρ F H b.2 b.1
  | [], vs, h => by simp only [Reps] at h; subst h; exact ⟨[], rfl, rfl, fun _ z => by cases z⟩
  | d :: ds, vs, h => by
    simp only [Reps] at h
    obtain ⟨v, r, rfl, h1, h2⟩ := h
    obtain ⟨bs, e1, e2, h3⟩ := Reps.pairs h2
    refine ⟨(v, d) :: bs, by rw [List.map_cons, e1], by rw [List.map_cons, e2], fun b hb => ?_⟩
    rcases List.mem_cons.mp hb with rfl | hb
    · exact h1
    · exact h3 b hb
theorem Reps.ofPairs : ∀ {bs : List (V × D)}, (∀ b, b ∈ bs → Rep K ρ F H b.2 b.1) → Reps K ρ F H (bs.map (·.2)) (bs.map (·.1))
  | [], _ => Reps.nil
  | b :: bs, h => Reps.cons (h b (List.mem_cons_self ..)) (Reps.ofPairs fun c hc => h c (List.mem_cons_of_mem _ hc))
theorem pyOks_mem : ∀ {l : List D}, pyOks l = true → ∀ d, d ∈ l → pyOk d = true
  | [], _, _, m => by cases m
  | x :: xs, h, d, m => by
    simp only [pyOks, Bool.and_eq_true] at h
    rcases List.mem_cons.mp m with rfl | m
    · exact h.1
    · exact pyOks_mem h.2 d m
theorem srt_pairs {bs : List (V × D)} : (bs.mergeSort (dataLe false encD)).map (·.2) = srtL (bs.map (·.2)) := by
  unfold srtL
  exact List.map_mergeSort fun _ _ _ _ => rfl
theorem hdT_tup {d : D} (h : hdT d = true) : ∃ x r, toPy d = .tuple (x :: r) := by
  cases d with
  | tup l =>
    cases l with
    | nil => cases h
    | cons x r => exact ⟨_, _, rfl⟩
  | _ => cases h
theorem noT_tup {d : D} (h : noT d = true) : toPy d ≠ .none ∧ ∀ xs, toPy d ≠ .tuple xs := by
  cases d <;> first | (cases h; done) | exact And.intro (fun z => by simp [toPy] at z) (fun _ z => by simp [toPy] at z)
/-- the items of what is to be sorted -/
theorem srt_okA {l : List D} {vs : List V} {a : Addr} {Q : VK} (h : srtOk l = true) (r : Reps K ρ F H l vs) (hs : SqL K H a vs ∨ SqT K H a vs) (q : ∀ p us, H p = none → Reps K ρ F H (srtL l) us → Q (.ref p) (upd H p (.lst us))) : rSrt K [.ref a] H Q := by
  unfold srtOk at h
  simp only [Bool.and_eq_true, Bool.or_eq_true] at h
  obtain ⟨⟨⟨h1, h2⟩, h3⟩, h4⟩ := h
  obtain ⟨bs, rfl, rfl, hb⟩ := Reps.pairs r
  have hm : ∀ b, b ∈ bs → b.2 ∈ bs.map (·.2) := fun b z => List.mem_map.mpr ⟨b, z, rfl⟩
  refine ⟨a, bs, rfl, hs, fun b z => Rep.dp _ _ (pyOks_mem h1 _ (hm b z)) (hb b z), ?_, ?_, fun b z => ?_, fun p hp => q p _ hp ?_⟩
  · refine .inl fun x hx y hy => ?_
    obtain ⟨u, hu, rfl⟩ := List.mem_map.mp hx
    obtain ⟨w, hw, rfl⟩ := List.mem_map.mp hy
    unfold cmpAll at h3
    rw [List.all_eq_true] at h3
    have := h3 _ (hm u hu)
    rw [List.all_eq_true] at this
    exact this _ (hm w hw)
  · rcases h2 with h2 | h2
    · refine .inl fun x hx => ?_
      obtain ⟨u, hu, rfl⟩ := List.mem_map.mp hx
      rw [List.all_eq_true] at h2
      exact hdT_tup (h2 _ (hm u hu))
    · refine .inr fun x hx => ?_
      obtain ⟨u, hu, rfl⟩ := List.mem_map.mp hx
      rw [List.all_eq_true] at h2
      exact noT_tup (h2 _ (hm u hu))
  · rw [List.all_eq_true] at h4
    exact of_decide_eq_true (h4 _ (hm b z))
  · rw [← srt_pairs]
    exact Reps.ofPairs fun b z => hb b ((List.mergeSort_perm bs _).mem_iff.mp z)
theorem cmOk_of {l : List D} (h : cmOk l = true) : pyOks l = true ∧ (l.all hdT || l.all noT) = true ∧ (∀ x ∈ l, ∀ y ∈ l, Kz.cm (toPy x) (toPy y) = true) ∧ ∀ x ∈ l, (toPy x).canLay0 = true ∧ (toPy x).depth ≤ 60 := by
  unfold cmOk at h
  rw [Bool.and_eq_true, Bool.and_eq_true, Bool.and_eq_true, List.all_eq_true, List.all_eq_true] at h
  obtain ⟨⟨⟨h1, h2⟩, h3⟩, h4⟩ := h
  refine ⟨h1, h2, fun x hx y hy => ?_, fun x hx => ?_⟩
  · have := h3 x hx
    rw [List.all_eq_true] at this
    exact this y hy
  · have := h4 x hx
    rw [Bool.and_eq_true, decide_eq_true_eq] at this
    exact this
theorem sortable_of {l : List D} (h : (l.all hdT || l.all noT) = true) : Sortable (l.map toPy) := by
  rcases Bool.or_eq_true_iff.mp h with h | h <;> rw [List.all_eq_true] at h
  · refine .inl fun x hx => ?_
    obtain ⟨u, hu, rfl⟩ := List.mem_map.mp hx
    exact hdT_tup (h _ hu)
  · refine .inr fun x hx => ?_
    obtain ⟨u, hu, rfl⟩ := List.mem_map.mp hx
    exact noT_tup (h _ hu)
theorem allCm_of {l : List D} (h : cmOk l = true) : Kz.AllCm (l.map toPy) := by
  obtain ⟨_, _, h3, h4⟩ := cmOk_of h
  refine ⟨fun x hx y hy => ?_, fun x hx => ?_⟩
  · obtain ⟨u, hu, rfl⟩ := List.mem_map.mp hx
    obtain ⟨w, hw, rfl⟩ := List.mem_map.mp hy
    exact h3 u hu w hw
  · obtain ⟨u, hu, rfl⟩ := List.mem_map.mp hx
    exact (h4 u hu).1
theorem srt_okB {l : List D} {vs : List V} {a : Addr} {Q : VK} (h : cmOk l = true) (r : Reps K ρ F H l vs) (hs : SqL K H a vs ∨ SqT K H a vs) (q : ∀ p us, H p = none → Reps K ρ F H (srtL l) us → Q (.ref p) (upd H p (.lst us))) : rSrt K [.ref a] H Q := by
  obtain ⟨h1, h2, h3, h4⟩ := cmOk_of h
  have ac := allCm_of h
  have so := sortable_of h2
  obtain ⟨bs, rfl, rfl, hb⟩ := Reps.pairs r
  have hm : ∀ b, b ∈ bs → b.2 ∈ bs.map (·.2) := fun b z => List.mem_map.mpr ⟨b, z, rfl⟩
  have em : (bs.map (·.2)).map toPy = bs.map encD := by rw [List.map_map]; rfl
  rw [em] at ac so
  refine ⟨a, bs, rfl, hs, fun b z => Rep.dp _ _ (pyOks_mem h1 _ (hm b z)) (hb b z), .inr ac, so, fun b z => (h4 _ (hm b z)).2, fun p hp => q p _ hp ?_⟩
  rw [← srt_pairs]
  exact Reps.ofPairs fun b z => hb b ((List.mergeSort_perm bs _).mem_iff.mp z)
theorem srt_ok {l : List D} {vs : List V} {a : Addr} {Q : VK} (h : (srtOk l || cmOk l) = true) (r : Reps K ρ F H l vs) (hs : SqL K H a vs ∨ SqT K H a vs) (q : ∀ p us, H p = none → Reps K ρ F H (srtL l) us → Q (.ref p) (upd H p (.lst us))) : rSrt K [.ref a] H Q :=
  (Bool.or_eq_true_iff.mp h).elim (fun h => srt_okA h r hs q) fun h => srt_okB h r hs q
theorem ints_of : ∀ {ks : List Key}, (ks.map keyE).all isI = true → ∃ ns : List Int, ks = ns.map Sum.inl
  | [], _ => ⟨[], rfl⟩
  | k :: ks, h => by
    rw [List.map_cons, List.all_cons, Bool.and_eq_true] at h
    obtain ⟨ns, rfl⟩ := ints_of h.2
    cases k with
    | inl i => exact ⟨i :: ns, rfl⟩
    | inr x => cases h.1
theorem reps_ints : ∀ (ns : List Int), Reps K ρ F H (ns.map D.int) (ns.map V.int)
  | [] => Reps.nil
  | n :: ns => Reps.cons (by simp only [Rep]) (reps_ints ns)
theorem srt_ints (ns : List Int) : srtL (ns.map D.int) = (ns.mergeSort fun a b => decide (a ≤ b)).map D.int := by
  unfold srtL
  rw [List.map_mergeSort (r := fun a b => decide (a ≤ b)) (s := dataLe false toPy)]
  intro a _ b _
  show decide (a ≤ b) = !dataLt (.int b) (.int a)
  rw [dataLt_int, not_lt_int]
theorem sort_uniq {ns ys : List Int} (h1 : ys.Perm ns) (h2 : ys.Pairwise (· ≤ ·)) : ys = ns.mergeSort fun a b => decide (a ≤ b) := by
  have h3 : (ns.mergeSort fun a b => decide (a ≤ b)).Pairwise (· ≤ ·) := by
    have := List.pairwise_mergeSort (le := fun a b : Int => decide (a ≤ b)) (fun a b c h1 h2 => by simp only [decide_eq_true_eq] at *; omega) (fun a b => by simp only [Bool.or_eq_true, decide_eq_true_eq]; omega) ns
    exact this.imp fun h => by simpa using h
  exact List.Perm.eq_of_pairwise (fun a b _ _ h1 h2 => Int.le_antisymm h1 h2) h2 h3 (h1.trans (List.mergeSort_perm ns _).symm)
end
end Ev


set_option Elab.async false
set_option linter.all false
set_option maxRecDepth 100000
set_option maxHeartbeats 2000000
/-! EvS: [::-1], sorted, dict, list of items, a tuple that is known to be just that. -/
namespace Ev
open PySem PyProof.Rows
open L2 (V Hp HO SqL SqT Rd upd upd_same upd_ne Same TE VK PE PT PW PA XK Sp FnOk Binds Room CX0 E0 Cx OpR CallR R2 Vals RelV kV)
section
variable {K : PySem.W.Frag} {Tb : Addr → Prop} {b : Bx} {σV : L2.St} {ρ : List Addr} {F : Addr → Prop} {H H' : Hp} {s : S} {Q : VK}
theorem Reps.rev : ∀ {ds : List D} {vs : List V}, Reps K ρ F H ds vs → Reps K ρ F H ds.reverse vs.reverse
  | [], _, h => by simp only [Reps] at h; subst h; exact Reps.nil
  | d :: ds, _, h => by
    simp only [Reps] at h
    obtain ⟨v, r, rfl, h1, h2⟩ := h
    rw [List.reverse_cons, List.reverse_cons]
    exact Reps.append (Reps.rev h2) (Reps.one h1)
/-- a new dict that nobody changes -/
theorem dic_new {p : Addr} {kvs : List (Key × V)} {ks : List Key} {ds : List D} (rl : Rl K Tb b σV ρ F H s) (hp : H p = none) (e : kvs.map (·.1) = ks) (r : Reps K ρ F H ds (kvs.map (·.2))) (h : WG K Tb b σV ρ F H (RepR K b σV) Q (.ok (.val (.dic ks ds), s))) :
    Q (.ref p) (upd H p (.dK kvs)) := by
  obtain ⟨f1, f2, f3, f4, f5⟩ := rl.free hp
  refine h (.ref p) ρ (fun a => F a ∨ a = p) _ ((ExE.same (same_upd hp)).trans (ExE.more fun _ => .inl)) ((rl.same (same_upd hp)).share ⟨.dK kvs, upd_same, id⟩ f2 f3 f4 f5) ?_
  simp only [RepR, Rep]
  exact ⟨p, kvs, rfl, .inr rfl, upd_same, e, Reps.mono ((ExS.same (same_upd hp)).trans (ExS.more fun _ => .inl)) _ _ r⟩
/-- the pairs -/
theorem prs_rep : ∀ {l : List D} {us : List V} {ks : List Key} {ds : List D}, Reps K ρ F H l us → prsD l = some (ks, ds) → ∃ (ps : List Addr) (kvs : List (Key × V)), us = ps.map V.ref ∧ Paired (fun p (kv : Key × V) => SqT K H p [kV kv.1, kv.2]) ps kvs ∧ kvs.map (·.1) = ks ∧ Reps K ρ F H ds (kvs.map (·.2))
  | [], us, ks, ds, h, e => by
    simp only [Reps] at h
    subst h
    cases e
    exact ⟨[], [], rfl, .nil, rfl, Reps.nil⟩
  | d :: l, us, ks, ds, h, e => by
    simp only [Reps] at h
    obtain ⟨v, r, rfl, h1, h2⟩ := h
    unfold prsD at e
    split at e
    · cases ‹_ :: _ = []›
    · rename_i k v' r' z
      cases z
      cases ek : keyD k with
      | none => rw [ek] at e; cases e
      | some kk =>
        rw [ek] at e
        cases er : prsD l with
        | none => rw [er] at e; cases e
        | some q =>
          obtain ⟨k2, d2⟩ := q
          rw [er] at e
          cases e
          obtain ⟨ps, kvs, e1, e2, e3, e4⟩ := prs_rep h2 er
          simp only [Rep, Reps] at h1
          obtain ⟨a, vs, rfl, hs, w, rr, e5, h3, y, rr2, e6, h4, e7⟩ := h1
          subst e5 e6 e7
          rw [key_rep h3 ek] at hs
          exact ⟨a :: ps, (kk, y) :: kvs, by rw [e1]; rfl, .cons hs e2, by rw [List.map_cons, e3], Reps.cons h4 e4⟩
    · cases e
theorem mrg_rep : ∀ {kvs acc : List (Key × V)} {ds as : List D}, Reps K ρ F H ds (kvs.map (·.2)) → Reps K ρ F H as (acc.map (·.2)) →
    (L2.mergeK acc kvs).map (·.1) = (mrgD (acc.map (·.1)) as (kvs.map (·.1)) ds).1 ∧ Reps K ρ F H (mrgD (acc.map (·.1)) as (kvs.map (·.1)) ds).2 ((L2.mergeK acc kvs).map (·.2))
  | [], acc, ds, as, h, g => by
    cases ds with
    | nil => exact ⟨rfl, g⟩
    | cons d ds => simp only [List.map_nil, Reps] at h; obtain ⟨v, r, z, _⟩ := h; cases z
  | kv :: kvs, acc, ds, as, h, g => by
    cases ds with
    | nil => simp only [List.map_cons, Reps] at h; cases h
    | cons d ds =>
      simp only [List.map_cons, Reps] at h
      obtain ⟨v, r, z, h1, h2⟩ := h
      cases z
      obtain ⟨k1, k2⟩ := putK_rep (k := kv.1) h1 g
      have ih := mrg_rep (kvs := kvs) (acc := L2.putK acc kv.1 kv.2) h2 k2
      rw [k1] at ih
      exact ih
end
/-- a tuple's object -/
abbrev exO (its : List Value) : Obj := { cls := .type "tuple", data := .seq its.toArray }
theorem call_tplx {X : Cx} : CallR X (.type "tuple") (fun xs H Q => ∃ p ys, xs = [V.ref p] ∧ SqL X.K H p ys ∧ ∀ l o, H l = none → o.dict = none → Q (.ref l) (upd H l (.frz o (.tup ys)))) := by
  intro pins s σ H xs us Q I r h
  obtain ⟨p, ys, rfl, hq, q⟩ := h
  obtain ⟨u, rfl, rx⟩ := L2.vals1 r
  cases rx
  obtain ⟨its, rv, pl, hz⟩ := I.list hq
  have hlen := rv.length
  refine call_tuple_list pl.isList (fun h2 kp => ?_) (by simp only [List.size_toArray] <;> omega)
  have I1 : L2.Inv X pins σ H { s with heap := h2 } := I.kept (t' := s.toks) kp
  have I2 := I1.laid (t' := s.toks) (o := .frz (exO its) (.tup ys)) (a := h2.objs.size) (h' := h2.push (exO its)) (fun b o e => Heap.get?_push_of_some _ e) (Nat.le_refl _) ⟨Heap.get?_push_size _ rfl, hz, its, rv, PyProof.Rows.IsTup.new _ _⟩
  exact ⟨.ref h2.objs.size, _, I2, rfl, q _ _ (I1.hok.fresh (Nat.le_refl _)) rfl⟩
/-- dict(t), t a tuple of pairs that is just a tuple -/
theorem call_dictX {X : Cx} (hcalm : X.calm = true) : CallR X (.type "dict") (fun xs H Q => ∃ (a : Addr) (o : Obj) (ps : List Addr) (kvs : List (Key × V)), xs = [V.ref a] ∧ H a = some (.frz o (.tup (ps.map V.ref))) ∧ o.dict = none ∧ Paired (fun p kv => SqT X.K H p [kV kv.1, kv.2]) ps kvs ∧
    ∀ p, H p = none → Q (.ref p) (upd H p (.dK (L2.mergeK [] kvs)))) := by
  intro pins s σ H xs us Q I r q
  obtain ⟨a, o, ps, kvs, rfl, ha, hd, hp, q⟩ := q
  obtain ⟨u, rfl, rx⟩ := L2.vals1 r
  cases rx
  obtain ⟨ho, hz, its, rv, ht⟩ : s.heap.get? a = some o ∧ (ps.map V.ref).length ≤ sizeLine ∧ ∃ its : List Value, Vals (ps.map V.ref) its ∧ PyProof.Rows.IsTup s.heap a its.toArray := I.hok a _ ha
  obtain rfl := L2.refs_at rv
  rw [List.length_map] at hz
  obtain ⟨prs, rel, hl, hpr⟩ := L2.pairs_of I hp
  obtain ⟨o2, ho2, hc, n, hdat⟩ := ht
  rw [ho] at ho2
  cases ho2
  have hk : ∀ (j : Nat) (qv : Key × Value), prs[j]? = some qv → ∃ (b : Addr) (u : Value), ps[j]? = some b ∧ PyProof.Rows.IsTup s.heap b #[u, qv.2] ∧ L2.keyIs qv.1 u = true := hpr
  -- the keys as they stand
  have hks : ∃ us : List Value, us.length = prs.length ∧ ∀ (j : Nat) (qv : Key × Value), prs[j]? = some qv → ∃ (b : Addr) (u : Value), ps[j]? = some b ∧ us[j]? = some u ∧ PyProof.Rows.IsTup s.heap b #[u, qv.2] ∧ L2.keyIs qv.1 u = true := by
    clear rel hz ha hp ho hdat hpr rv r q
    have hl' : prs.length = ps.length := hl
    clear hl
    revert ps
    induction prs with
    | nil => intro ps _ _; exact ⟨[], rfl, fun j qv e => by simp at e⟩
    | cons q0 prs ih =>
      intro ps hk hl
      cases ps with
      | nil => simp at hl
      | cons p0 ps =>
        obtain ⟨us, e1, e2⟩ := ih ps (fun j qv e => by
          obtain ⟨b, u, z1, z2, z3⟩ := hk (j + 1) qv (by simpa using e)
          exact ⟨b, u, by simpa using z1, z2, z3⟩) (by simpa using hl)
        obtain ⟨b, u, z1, z2, z3⟩ := hk 0 q0 rfl
        refine ⟨u :: us, by simp [e1], fun j qv e => ?_⟩
        cases j with
        | zero =>
          cases (Option.some.inj e : q0 = qv)
          exact ⟨b, u, z1, rfl, z2, z3⟩
        | succ j =>
          obtain ⟨b, u, y1, y2, y3, y4⟩ := e2 j qv (by simpa using e)
          exact ⟨b, u, by simpa using y1, by simpa using y2, y3, y4⟩
  obtain ⟨ws, lw, hw⟩ := hks
  have hprs : (ws.zip (prs.map (·.2))).length = ps.length := by rw [List.length_zip, List.length_map, lw, hl]; omega
  have ok : PlainSeq "tuple" s.heap a (ps.map Value.ref).toArray ∧ PairItems s.heap (ps.map Value.ref).toArray (fun j => ps.getD j 0) (ws.zip (prs.map (·.2))) := by
    refine ⟨⟨o, n, ho, hc, hd, hdat⟩, ?_, fun j k v e => ?_⟩
    · rw [hprs]; simp
    · rw [List.getElem?_zip_eq_some] at e
      obtain ⟨e1, e2⟩ := e
      rw [List.getElem?_map] at e2
      cases ep : prs[j]? with
      | none => rw [ep] at e2; cases e2
      | some qv =>
        rw [ep] at e2
        obtain ⟨b, u, z1, z2, z3, z4⟩ := hw j qv ep
        rw [e1] at z2
        cases z2
        cases (Option.some.inj e2 : qv.2 = v)
        refine ⟨by simp [z1], ?_⟩
        have : ps.getD j 0 = b := by simp [z1]
        show PairAt s.heap (ps.getD j 0) k qv.2
        rw [this]
        obtain ⟨ob, y1, y2, m, y3⟩ := z3
        exact .inl ⟨ob, y1, y2, m, y3⟩
  refine PySem.call_dict_pairs (knd := L2.mixKind X.prog X.w) (kvs := prs) (PairArg.tuple a (ps.map Value.ref).toArray (fun j => ps.getD j 0) (ws.zip (prs.map (·.2)))) (I.ok.hd hcalm) ok ⟨by rw [hprs]; exact hl, fun i key v e => ?_⟩ (by rw [hprs]; exact hz) ?_
  · have e' : (ws.zip (prs.map (·.2)))[i]? = some (key, v) := e
    rw [List.getElem?_zip_eq_some] at e'
    obtain ⟨e1, e2⟩ := e'
    rw [List.getElem?_map] at e2
    cases ep : prs[i]? with
    | none => rw [ep] at e2; cases e2
    | some qv =>
      rw [ep] at e2
      obtain ⟨b, u, z1, z2, z3, z4⟩ := hw i qv ep
      rw [e1] at z2
      cases z2
      cases (Option.some.inj e2 : qv.2 = v)
      exact ⟨qv.1, rfl, z4⟩
  · intro h2 tk hd2 hk2
    have hm : (s.heap.objs.size == sysModules) = false := beq_eq_false_iff_ne.mpr (Nat.ne_of_gt I.big)
    have hlen : (L2.mergeK [] kvs).length ≤ sizeLine := by
      refine Nat.le_trans (L2.length_mergeK kvs []) ?_
      rw [List.length_nil, Nat.zero_add, rel.length, hl]
      exact hz
    exact ⟨.ref s.heap.objs.size, upd H s.heap.objs.size (.dK (L2.mergeK [] kvs)), I.laid (t' := tk) (fun b o z => hk2 b o (fun m => nomatch m) z) (Nat.le_refl _) ⟨hlen, hm, merged [] prs, L2.KV.merge rel .nil, hd2⟩, rfl, q _ (I.hok.fresh (Nat.le_refl _))⟩
section
variable {g : Gd} {c : Cc} {pos : Pos} {e e2 e3 : Expr} {i i2 i3 : E}
theorem se_rev {p1 p2 p3 : Pos} {k : Nat} (ha : SE g c e i) : SE g c (.Subscript e (.Slice none none (some (.UnaryOp .USub (.Constant (.int 1) k p1) p2)) p3) pos) (.rev i) := by
  obtain ⟨t, h1, h2⟩ := ha
  refine ⟨fun σ H Q => L2.tRevL g.K t σ H Q ∨ tRevT g.K t σ H Q, fun X hX => ⟨fun pins s σ H Q I h => ?_⟩, fun b σV ρ F H s Q rl h => ?_⟩
  · rw [← hX.K] at h
    exact h.elim ((L2.pe_revL (h1 X hX)).run pins s σ H Q I) ((pe_revT (h1 X hX)).run pins s σ H Q I)
  · simp only [evE] at h
    cases z : evE g.C g.D i s with
    | exc _ => rw [z] at h; exact h.elim
    | bad => rw [z] at h; exact h.elim
    | ok q =>
      obtain ⟨x, s1⟩ := q
      have hz := h
      rw [z] at hz
      simp only [Res.b2] at hz
      obtain ⟨r, e3, _⟩ := hz.opt
      unfold revD at e3
      split at e3
      · rename_i l zz
        refine .inr (h.step (T := fun Q' => t σV H Q') (fun Q' q => h2 _ _ _ _ _ _ _ rl q) fun x' s1' v ρ1 F1 H1 eq e1 r1 p1 q1 => ?_)
        rw [z] at eq
        cases eq
        have pI := drI r1 p1
        rw [zz] at pI q1
        simp only [RepI, Rep] at pI
        obtain ⟨a, vs, rfl, k1, k2⟩ := pI
        exact ⟨a, vs, rfl, k1, fun p hp => q1.fin' (same_upd hp) r1 (Rep.newT hp (Reps.rev k2))⟩
      · rename_i l zz
        refine .inl (h.step (T := fun Q' => t σV H Q') (fun Q' q => h2 _ _ _ _ _ _ _ rl q) fun x' s1' v ρ1 F1 H1 eq e1 r1 p1 q1 => ?_)
        rw [z] at eq
        cases eq
        have pI := drI r1 p1
        rw [zz] at pI q1
        obtain ⟨a, vs, rfl, k1, k2⟩ := pI
        exact ⟨a, vs, rfl, k1, fun p hp => q1.fin' (same_upd hp) r1 (RepR.new r1 hp (Reps.rev k2))⟩
      · cases e3
abbrev rSrtI : List V → Hp → VK → Prop := fun xs H Q => ∃ (a : Addr) (kvs : List (Key × V)) (ks : List Int), xs = [.ref a] ∧ Rd H a (.dK kvs) ∧ kvs.map (·.1) = ks.map Sum.inl ∧ ks.length < 64 ∧
  ∀ (ys : List Int) (p : Addr), ys.Perm ks → ys.Pairwise (· ≤ ·) → H p = none → Q (.ref p) (upd H p (.lst (ys.map V.int)))
theorem se_srt {gt : List (Str × Gv)} (gk : GOk g gt) (hc : c.gt = gt) {p : Pos} (hf : globV c "sorted" = some .blt) (hs : isStar e = false) (ha : SE g c e i) : SE g c (.Call (.Name "sorted" p) [e] [] pos) (.srt i) := by
  obtain ⟨t, h1, h2⟩ := ha
  obtain ⟨h5, h6, h7⟩ := globV_of hf
  obtain ⟨o1, o2, o3⟩ := okName_of h7
  refine ⟨L2.tCB (fun xs H Q => rSrt g.K xs H Q ∨ rSrtI xs H Q) (L2.tCons t L2.tNil), fun X hX => ?_, fun b σV ρ F H s Q rl h => ?_⟩
  · rw [← hX.K]
    exact L2.pe_callB (callR_or (cr_srt (by have := hX.room.un; omega)) (L2.call_sortedDI hX.calm)) (hX.gl hf) (by rw [hX.mg]; exact gk.blt _ (hc ▸ h6)) (by decide +kernel) (L2.pa_cons (h1 X hX) L2.pa_nil (star_no hs _ _)) o3 o1 (star_no hs [] X.env) rfl
  · simp only [evE] at h
    refine h.step (T := fun Q' => t σV H Q') (fun Q' q => h2 _ _ _ _ _ _ _ rl q) fun x s1 v ρ1 F1 H1 _ e1 r1 p1 q1 => ?_
    obtain ⟨k, e3, q3⟩ := q1.opt
    have pI := drI r1 p1
    unfold srtD at e3
    split at e3
    · rename_i l zz
      rw [zz] at pI
      split at e3
      · rename_i ho
        cases e3
        obtain ⟨a, vs, rfl, k1, k2⟩ := pI
        exact .inl (srt_ok ho k2 (.inl k1) fun p us hp r => q3.fin' (same_upd hp) r1 (RepR.new r1 hp r))
      · cases e3
    · rename_i l zz
      rw [zz] at pI
      split at e3
      · rename_i ho
        cases e3
        simp only [RepI, Rep] at pI
        obtain ⟨a, vs, rfl, k1, k2⟩ := pI
        exact .inl (srt_okA ho k2 (.inr k1) fun p us hp r => q3.fin' (same_upd hp) r1 (RepR.new r1 hp r))
      · cases e3
    · rename_i ks ds zz
      rw [zz] at pI
      split at e3
      · rename_i ho
        cases e3
        rw [Bool.and_eq_true] at ho
        obtain ⟨a, kvs, rfl, k1, k2, k3⟩ := pI
        obtain ⟨ns, rfl⟩ := ints_of ho.1
        have hl := of_decide_eq_true ho.2
        refine .inr ⟨a, kvs, ns, rfl, .inl k1, k2, by rw [List.length_map] at hl; exact hl, fun ys p hy ho2 hp => ?_⟩
        have em : (ns.map Sum.inl : List Key).map keyE = ns.map D.int := by rw [List.map_map]; rfl
        rw [em, srt_ints, ← sort_uniq hy ho2] at q3
        exact q3.fin' (same_upd hp) r1 (RepR.new r1 hp (reps_ints ys))
      · cases e3
    · cases e3
theorem se_tpl {gt : List (Str × Gv)} (gk : GOk g gt) (hc : c.gt = gt) {x : Str} {p : Pos} (hf : globV c x = some .blt) (hb : biO x = some .tuple) (hs : isStar e = false) (ha : SE g c e i) : SE g c (.Call (.Name x p) [e] [] pos) (.tpl i) := by
  obtain ⟨t, h1, h2⟩ := ha
  obtain ⟨h5, h6, h7⟩ := globV_of hf
  obtain ⟨o1, o2, o3⟩ := okName_of h7
  refine ⟨L2.tCB (fun xs H Q => ∃ p ys, xs = [V.ref p] ∧ SqL g.K H p ys ∧ ∀ l o, H l = none → o.dict = none → Q (.ref l) (upd H l (.frz o (.tup ys)))) (L2.tCons t L2.tNil), fun X hX => ?_, fun b σV ρ F H s Q rl h => ?_⟩
  · rw [← hX.K]
    exact L2.pe_callTy call_tplx (hX.gl hf) (by rw [hX.mg]; exact gk.blt _ (hc ▸ h6)) (biO_of hb) (L2.pa_cons (h1 X hX) L2.pa_nil (star_no hs _ _)) o3 o1 (star_no hs [] X.env) rfl
  · simp only [evE] at h
    refine h.step (T := fun Q' => t σV H Q') (fun Q' q => h2 _ _ _ _ _ _ _ rl q) fun x s1 v ρ1 F1 H1 _ e1 r1 p1 q1 => ?_
    have pI := drI r1 p1
    split at q1
    · rename_i l zz
      rw [zz] at pI
      obtain ⟨a, vs, rfl, k1, k2⟩ := pI
      refine ⟨a, vs, rfl, k1, fun p o hp ho => q1.fin' (same_upd hp) r1 ?_⟩
      simp only [RepR, Rep]
      exact ⟨p, vs, o, rfl, upd_same, ho, Reps.mono (ExS.same (same_upd hp)) _ _ k2⟩
    · exact q1.elim
theorem se_dct {gt : List (Str × Gv)} (gk : GOk g gt) (hc : c.gt = gt) {p : Pos} (hf : globV c "dict" = some .blt) (hs : isStar e = false) (ha : SE g c e i) : SE g c (.Call (.Name "dict" p) [e] [] pos) (.dct i) := by
  obtain ⟨t, h1, h2⟩ := ha
  obtain ⟨h5, h6, h7⟩ := globV_of hf
  obtain ⟨o1, o2, o3⟩ := okName_of h7
  refine ⟨L2.tCB (fun xs H Q => (∃ (a : Addr) (ps : List Addr) (kvs : List (Key × V)), xs = [.ref a] ∧ SqL g.K H a (ps.map V.ref) ∧ Paired (fun p kv => SqT g.K H p [kV kv.1, kv.2]) ps kvs ∧ ∀ p, H p = none → Q (.ref p) (upd H p (.dK (L2.mergeK [] kvs)))) ∨
    (∃ (a : Addr) (o : Obj) (ps : List Addr) (kvs : List (Key × V)), xs = [V.ref a] ∧ H a = some (.frz o (.tup (ps.map V.ref))) ∧ o.dict = none ∧ Paired (fun p kv => SqT g.K H p [kV kv.1, kv.2]) ps kvs ∧ ∀ p, H p = none → Q (.ref p) (upd H p (.dK (L2.mergeK [] kvs))))) (L2.tCons t L2.tNil), fun X hX => ?_, fun b σV ρ F H s Q rl h => ?_⟩
  · rw [← hX.K]
    exact L2.pe_callTy (callR_or (L2.call_dictP hX.calm) (call_dictX hX.calm)) (hX.gl hf) (by rw [hX.mg]; exact gk.blt _ (hc ▸ h6)) (by decide +kernel) (L2.pa_cons (h1 X hX) L2.pa_nil (star_no hs _ _)) o3 o1 (star_no hs [] X.env) rfl
  · simp only [evE] at h
    refine h.step (T := fun Q' => t σV H Q') (fun Q' q => h2 _ _ _ _ _ _ _ rl q) fun x s1 v ρ1 F1 H1 _ e1 r1 p1 q1 => ?_
    obtain ⟨k, e3, q3⟩ := q1.opt
    unfold dctD at e3
    split at e3
    · rename_i l zz
      have zz2 : drD s1.M x.fz = .lst l := by
        cases hx : x.fz <;> rw [hx] at zz <;> first | (cases zz; done) | exact zz
      have pI := drI r1 p1
      rw [zz2] at pI
      obtain ⟨a, vs, rfl, k1, k2⟩ := pI
      cases ep : prsD l with
      | none => rw [ep] at e3; cases e3
      | some q =>
        obtain ⟨ks, ds⟩ := q
        rw [ep] at e3
        cases e3
        obtain ⟨ps, kvs, rfl, w1, rfl, w2⟩ := prs_rep k2 ep
        obtain ⟨y1, y2⟩ := mrg_rep (acc := []) w2 Reps.nil
        exact .inl ⟨a, ps, kvs, rfl, k1, w1, fun p hp => dic_new r1 hp y1 y2 q3⟩
    · rename_i l zz
      have zz2 : x.fz = .tpx l := by
        cases hx : x.fz <;> rw [hx] at zz <;> first | (cases zz; done) | exact zz | skip
        simp only [drX, drD] at zz
        split at zz <;> cases zz
      rw [zz2] at p1
      simp only [Rep] at p1
      obtain ⟨a, vs, o, rfl, k1, kd, k2⟩ := p1
      cases ep : prsD l with
      | none => rw [ep] at e3; cases e3
      | some q =>
        obtain ⟨ks, ds⟩ := q
        rw [ep] at e3
        cases e3
        obtain ⟨ps, kvs, rfl, w1, rfl, w2⟩ := prs_rep k2 ep
        obtain ⟨y1, y2⟩ := mrg_rep (acc := []) w2 Reps.nil
        exact .inr ⟨a, o, ps, kvs, rfl, k1, kd, w1, fun p hp => dic_new r1 hp y1 y2 q3⟩
    · cases e3
theorem itm_rep {K : PySem.W.Frag} {ρ : List Addr} {F : Addr → Prop} {H : Hp} : ∀ {kvs : List (Key × V)} {ts : List Addr} {ds : List D}, Paired (fun (t : Addr) (q : Key × V) => H t = some (.tup [kV q.1, q.2])) ts kvs → Reps K ρ F H ds (kvs.map (·.2)) →
    Reps K ρ F H (itemsL (kvs.map (·.1)) ds) (ts.map V.ref)
  | [], _, _, .nil, _ => by cases ‹List D› <;> exact Reps.nil
  | q :: kvs, _, ds, .cons (a := t) h1 h2, r => by
    cases ds with
    | nil => simp only [List.map_cons, Reps] at r; cases r
    | cons d ds =>
      simp only [List.map_cons, Reps] at r
      obtain ⟨v, u, z, r1, r2⟩ := r
      cases z
      refine Reps.cons ?_ (itm_rep h2 r2)
      simp only [Rep]
      refine ⟨t, _, rfl, SqT.of h1, Reps.cons ?_ (Reps.one r1)⟩
      cases q.1 <;> simp only [keyE, Rep] <;> rfl
theorem se_itm {gt : List (Str × Gv)} (gk : GOk g gt) (hc : c.gt = gt) {f : Str} {p ap cp : Pos} (hf : isBlt c f "list" = true) (hl : (ap.endLine == cp.line) = true) (hb : baseOk e = true) (ha : SE g c e i) : SE g c (.Call (.Name f p) [.Call (.Attribute e "items" ap) [] [] cp] [] pos) (.itm i) := by
  obtain ⟨t, h1, h2⟩ := ha
  obtain ⟨rfl, hf⟩ := isBlt_of hf
  obtain ⟨h5, h6, h7⟩ := globV_of hf
  refine ⟨LiI.tListItems t, fun X hX => ?_, fun b σV ρ F H s Q rl h => ?_⟩
  · exact LiI.pe_listItems hX.calm (h1 X hX) (hX.gl hf) (by rw [hX.mg]; exact gk.blt _ (hc ▸ h6)) (by decide +kernel) (base_ok hb) hl rfl
  · simp only [evE] at h
    refine h.step (T := fun Q' => t σV H Q') (fun Q' q => h2 _ _ _ _ _ _ _ rl q) fun x s1 v ρ1 F1 H1 _ e1 r1 p1 q1 => ?_
    obtain ⟨k, e3, q3⟩ := q1.opt
    have pI := drI r1 p1
    unfold itmD at e3
    split at e3
    · rename_i ks ds zz
      cases e3
      rw [zz] at pI
      obtain ⟨a, kvs, rfl, k1, rfl, k3⟩ := pI
      refine ⟨a, kvs, rfl, k1, fun H' p ts hk hp ht hpt hl2 hq => ?_⟩
      obtain ⟨f1, f2, f3, f4, f5⟩ := r1.free hp
      refine q3.fin' (fun a o z => hk a o z) r1 ?_
      exact ⟨p, ts.map V.ref, rfl, ⟨hl2, itm_rep hq (Reps.mono (ExS.same fun a o z => hk a o z) _ _ k3), f1, f2, f3, f4⟩, f5⟩
    · cases e3
end
end Ev


set_option Elab.async false
set_option linter.all false
set_option maxRecDepth 100000
set_option maxHeartbeats 4000000
/-! KzC: sorted(xs, key=f), f a def: the keys such data. -/
namespace Kz
open PySem PySem.Calls PyProof.Rows PySem.W
section
variable {prog : Program} {w : World} {A : Around} {E : Value → Shared → Prop} {s : Shared} {a c : Addr} {r : Bool} {vs : List Value} {keys : Array Value} {e e1 : Nat} {P : PySem.Fin → Shared → Prop}
/-- all stands but the objects at a, at c -/
def Kp (a c : Addr) (h h' : Heap) : Prop := ∀ b o, b ≠ a → b ≠ c → h.get? b = some o → h'.get? b = some o
theorem k_tail {st : SortSt} {out : List Value} (nk : s.heap.get? c = some (seqObj "list" keys e)) (na : s.heap.get? a = some (seqObj "list" #[] e1)) (hca : c ≠ a) (hsz : keys.size ≤ sizeLine) (hz : out.length ≤ sizeLine) (hfl : failedOf st = none)
    (ho : (if r = true then ((arrOf st).map (·.2)).reverse else (arrOf st).map (·.2)) = out.toArray)
    (h : ∀ g tk n, Kp a c s.heap g → g.get? a = some (seqObj "list" out.toArray n) → P (.done (.ret .none)) { s with heap := g, toks := tk }) :
    wpAny (model prog w) A (ksk_tail a r e1 (.ref c) st) P E s := by
  have u1 := Heap.SameBut.update s.heap c (Obj.mapSeq fun _ => (#[] : Array Value))
  have na1 : (s.heap.update c (Obj.mapSeq fun _ => (#[] : Array Value))).get? a = some (seqObj "list" #[] e1) := (u1.2 a hca.symm).trans na
  have u2 := Heap.SameBut.update (s.heap.update c (Obj.mapSeq fun _ => (#[] : Array Value))) a (Obj.mapSeq fun _ => out.toArray)
  obtain ⟨n2, hn2⟩ : ∃ n2, ((s.heap.update c (Obj.mapSeq fun _ => (#[] : Array Value))).update a (Obj.mapSeq fun _ => out.toArray)).get? a = some (seqObj "list" out.toArray n2) := ⟨_, get?_update_seq na1 fun _ => out.toArray⟩
  have z2 : out.toArray.size ≤ sizeLine + 1 := Nat.le_succ_of_le (by rw [List.size_toArray]; exact hz)
  unfold ksk_tail
  try dsimp only
  rw [ho]
  refine wpAny_bind (listUpdate_at nk rfl (wpAny_bind (wpAny_letGo (wpAny_bind (seqEpoch_at na1 rfl (wpAny_bind (listUpdate_at na1 rfl ?_ (Nat.zero_le _) z2)))))) hsz (Nat.zero_le _))
  rw [hfl]
  simp only [bne_self_eq_false, Bool.false_eq_true, if_false]
  exact wpAny_pure (h _ _ n2 (fun b o hb hc q => (u2.2 b hb).trans ((u1.2 b hc).trans q)) hn2)
theorem k_end {κ : PyProof.Rows.KeyKind} (nk : s.heap.get? c = some (seqObj "list" keys e)) (na : s.heap.get? a = some (seqObj "list" #[] e1)) (hca : c ≠ a) (S : SortsAt prog w A s κ keys.toList) (hsz : keys.size = vs.length) (hZ : vs.length ≤ sizeLine)
    (h : ∀ g tk n, Kp a c s.heap g → g.get? a = some (seqObj "list" (sortVals κ false keys.toList vs).toArray n) → P (.done (.ret .none)) { s with heap := g, toks := tk }) :
    wpAny (model prog w) A (ksk_end a false vs.toArray e1 (.ref c) keys) P E s := by
  obtain ⟨kd, g1, g2⟩ := S.kind
  have hkl : keys.toList.length = vs.length := by rw [Array.length_toList]; exact hsz
  have hK : PyProof.Rows.KeysOf κ (keys.zip vs.toArray) := keysOf_zip S.keys
  have hol : (sortVals κ false keys.toList vs).length = vs.length := sortVals_length false hkl
  have h0 : (keys.zip vs.toArray).size = vs.length := by rw [Array.size_zip, hsz, List.size_toArray, Nat.min_self]
  have fin : ∀ t : SortSt, (arrOf t).Perm (keys.zip vs.toArray) → SortedToK κ (arrOf t) (keys.zip vs.toArray).size → Stable κ (arrOf t) (keys.zip vs.toArray) → (if false = true then ((arrOf t).map (·.2)).reverse else (arrOf t).map (·.2)) = (sortVals κ false keys.toList vs).toArray := fun t p1 p2 p3 => by
    have q := congrArg List.toArray (sort_out (rev := false) (keys := keys) (items := vs.toArray) (xs := arrOf t) (κ := κ) hK p1 p2 p3)
    rw [Array.toArray_toList] at q
    exact q
  unfold ksk_end
  try dsimp only
  simp only [Bool.false_eq_true, if_false]
  by_cases h2 : vs.toArray.size < 2
  · rw [if_pos h2, if_pos h2]
    refine wpAny_bind (wpAny_pure ?_)
    rw [StateT.run_pure]
    refine wpAny_bind (wpAny_pure ?_)
    try dsimp only
    refine k_tail (st := SortSt.mk' general' (keys.zip vs.toArray) #[] 7 none) nk na hca (by rw [hsz]; exact hZ) (by rw [hol]; exact hZ) rfl (fin _ (Array.Perm.refl _) ?_ (Stable.refl _)) h
    intro i j hij hj
    rw [h0] at hj
    rw [List.size_toArray] at h2
    obtain rfl : i = j := by omega
    exact KeyOrd.kle_refl _
  · rw [if_neg h2, if_neg h2]
    rw [List.size_toArray] at h2
    refine wpAny_bind (g2 (by omega) _ (wpAny_bind (wpAny_mono (H.wpS_sortRunsSt (κ := κ) (kd := kd) (a₀ := keys.zip vs.toArray) (st := SortSt.mk' kd (keys.zip vs.toArray) #[] 7 none)
      (Q := fun _ t => failedOf t = none ∧ (if false = true then ((arrOf t).map (·.2)).reverse else (arrOf t).map (·.2)) = (sortVals κ false keys.toList vs).toArray)
      g1 hK ⟨Array.Perm.refl _, rfl, rfl⟩ rfl (Stable.refl _) (by rw [h0]; omega) fun t a1 a2 a3 a4 => ⟨a2, fin t a1 a3 a4⟩) ?_ fun _ _ z => z)))
    rintro ⟨⟨⟩, t⟩ s' ⟨rfl, hf, ho⟩
    try dsimp only at ho ⊢
    exact k_tail nk na hca (by rw [hsz]; exact hZ) (by rw [hol]; exact hZ) hf ho h
end
/-! ### within a walk -/
open L2 (V Hp HO SqL SqT Rd upd upd_same upd_ne VK Inv Cx Un EP Vals RelV Dp DpAll St)
open Ev (IsTb)
/-- all that stands but the tables, which may have turned -/
structure Gr (Tb : Addr → Prop) (H H' : Hp) : Prop where
  keep : ∀ a o, H a = some o → ¬ IsTb o → H' a = some o
  tbl : ∀ a o, H a = some o → IsTb o → ∃ o', H' a = some o' ∧ IsTb o'
  tab : ∀ P, Tb P → GxR.TabG H' P
section
variable {Tb : Addr → Prop} {K : PySem.W.Frag} {H H1 H2 : Hp}
theorem Gr.trans (g : Gr Tb H H1) (k : Gr Tb H1 H2) : Gr Tb H H2 where
  keep := fun a o q n => k.keep a o (g.keep a o q n) n
  tbl := fun a o q t => by
    obtain ⟨o1, q1, t1⟩ := g.tbl a o q t
    exact k.tbl a o1 q1 t1
  tab := k.tab
theorem Gr.rd (g : Gr Tb H H1) {a : Addr} {u : HO} (hu : ¬ IsTb u) (r : Rd H a u) : Rd H1 a u := by
  rcases r with r | ⟨o, r⟩
  · exact .inl (g.keep a _ r hu)
  · exact .inr ⟨o, g.keep a _ r id⟩
mutual
theorem dp_gr (g : Gr Tb H H1) : ∀ (d : PyData) (v : V), Dp K H v d → Dp K H1 v d
  | .none, _, h => by cases h; exact .non
  | .bool _, _, h => by cases h; exact .bl _
  | .int _, _, h => by cases h; exact .int _
  | .str _, _, h => by cases h; exact .str _
  | .list ds, _, h => by
    cases h with
    | lst q t => exact .lst (q.imp (g.rd id) id) (dps_gr g ds _ t)
  | .tuple ds, _, h => by
    cases h with
    | tup q t => exact .tup (q.imp (g.rd id) id) (dps_gr g ds _ t)
  | .dict _, _, h => by cases h
theorem dps_gr (g : Gr Tb H H1) : ∀ (ds : List PyData) (vs : List V), DpAll K H vs ds → DpAll K H1 vs ds
  | [], _, h => by cases h; exact .nil
  | d :: ds, _, h => by
    cases h with
    | cons p t => exact .cons (dp_gr g d _ p) (dps_gr g ds _ t)
end
theorem dps_snoc {v : V} {d : PyData} (h : Dp K H v d) : ∀ {ds : List PyData} {vs : List V}, DpAll K H vs ds → DpAll K H (vs ++ [v]) (ds ++ [d])
  | _, _, .nil => .cons h .nil
  | _, _, .cons p t => .cons p (dps_snoc h t)
theorem vals_snoc {v : V} {u : Value} (h : RelV v u) : ∀ {vs : List V} {us : List Value}, Vals vs us → Vals (vs ++ [v]) (us ++ [u])
  | _, _, .nil => .cons h .nil
  | _, _, .cons p t => .cons p (vals_snoc h t)
end
end Kz


set_option Elab.async false
set_option linter.all false
set_option maxRecDepth 100000
set_option maxHeartbeats 4000000
/-! KzD: sorted(xs, key=f) within a walk. -/
namespace Kz
open PySem PySem.Calls PyProof.Rows PySem.W
open L2 (V Hp HO SqL SqT Rd upd upd_same upd_ne VK Inv Cx Un EP Vals RelV Dp DpAll HOk)
open Ev (IsTb)
theorem each_dp {X : Cx} {pins : List (Addr × Obj)} {σ : L2.St} {H : Hp} {s : Shared} (I : Inv X pins σ H s) : ∀ {ds : List PyData} {ws : List V} {us : List Value}, DpAll X.K H ws ds → Vals ws us → EachIs (fun u d => ∃ as, Reads s.heap u d as) us ds
  | _, _, _, .nil, r => by cases r; exact .nil
  | _, _, _, .cons p t, r => by
    cases r with
    | cons r1 r2 => exact .cons (L2.Dp.reads I _ _ _ p r1) (each_dp I t r2)
theorem dps_len {K : PySem.W.Frag} {H : Hp} : ∀ {vs : List V} {ds : List PyData}, DpAll K H vs ds → vs.length = ds.length
  | _, _, .nil => rfl
  | _, _, .cons _ t => by rw [List.length_cons, List.length_cons, dps_len t]
theorem each_zip {β : Type} : ∀ {xs : List V} {us : List Value} {ks : List β}, Vals xs us → ks.length = xs.length → EachIs (fun u (b : V × β) => RelV b.1 u) us (xs.zip ks)
  | _, _, [], .nil, _ => .nil
  | _, _, k :: ks, .cons r t, h => .cons r (each_zip t (Nat.succ.inj h))
  | _, _, _ :: _, .nil, h => by cases h
  | _, _, [], .cons _ _, h => by cases h
theorem vals_bs {β : Type} : ∀ {bs : List (V × β)} {us : List Value}, EachIs (fun u (b : V × β) => RelV b.1 u) us bs → Vals (bs.map (·.1)) us
  | _, _, .nil => .nil
  | _, _, .cons h t => .cons h (vals_bs t)
section
variable {X : Cx} {Tb : Addr → Prop} {pins : List (Addr × Obj)} {σ : L2.St} {H : Hp} {s : Shared} {l f : Addr} {xs : List V} {kds : List PyData} {Q : VK}
/-- what is so behind j calls -/
def J (X : Cx) (Tb : Addr → Prop) (pins : List (Addr × Obj)) (σ : L2.St) (H : Hp) (a c : Addr) (e1 : Nat) (kds : List PyData) (j : Nat) (s' : Shared) : Prop :=
  ∃ (H' : Hp) (kA : Array Value) (e : Nat) (ws : List V), Inv X ((a, seqObj "list" #[] e1) :: pins) σ H' s' ∧ Gr Tb H H' ∧ s'.heap.get? c = some (seqObj "list" kA e) ∧ H' c = none ∧ Vals ws kA.toList ∧ DpAll X.K H' ws (kds.take j)
theorem sorted_keyI (I : Inv X pins σ H s) (hs : SqL X.K H l xs) (hlen : kds.length = xs.length) (tb0 : ∀ P, Tb P → GxR.TabG H P) (hal : AllCm kds) (hsk : Sortable kds) (hu : ∀ d, d ∈ kds → X.A.units + 2 + d.depth < cLine)
    (turn : ∀ (i : Nat) (v : V) (k : PyData), xs[i]? = some v → kds[i]? = some k → ∀ (pins' : List (Addr × Obj)) (s' : Shared) (H' : Hp), Inv X pins' σ H' s' → Gr Tb H H' → ∀ u, RelV v u →
      wpAny (model X.prog X.w) X.A.in1.in1 (call (.ref f) [u]) (EP X pins' σ fun kv H2 => Gr Tb H' H2 ∧ Dp X.K H2 kv k) (fun _ _ => False) s')
    (q : ∀ (H' : Hp) (p : Addr), Gr Tb H H' → H' p = none → Q (.ref p) (upd H' p (.lst (((xs.zip kds).mergeSort (dataLe false (·.2))).map (·.1))))) :
    wpAny (model X.prog X.w) X.A (call (.builtin "sorted") [.ref l] [(Str.ofString "key", .ref f)]) (EP X pins σ Q) X.xe s := by
  obtain ⟨its, rv, hl, hz0⟩ := I.list hs
  have hz : its.length ≤ sizeLine := by rw [← rv.length]; exact hz0
  refine sorted_of_sort hl.isList hz (PyProof.Rows.ksk_s1 _ _) (fun _ => PyProof.Rows.ksk_l1 _ _) fun E' => ?_
  have ho := copyHeap_at s.heap its
  have keep1 : ∀ b o, s.heap.get? b = some o → (sortingHeap (copyHeap s.heap its) (s.heap.objs.size + 1) its).get? b = some o := fun _ _ z => sorting_copy_old z
  have size0 : (copyHeap s.heap its).objs.size = s.heap.objs.size + 2 := by
    unfold copyHeap
    rw [size_push', Heap.size_update, size_push']
  have I1 : Inv X pins σ H { s with heap := sortingHeap (copyHeap s.heap its) (s.heap.objs.size + 1) its } := I.kept (t' := s.toks) keep1
  obtain ⟨e1, ho1⟩ : ∃ e1, ((copyHeap s.heap its).update (s.heap.objs.size + 1) (Obj.mapSeq fun _ => (#[] : Array Value))).get? (s.heap.objs.size + 1) = some (seqObj "list" #[] e1) := ⟨_, get?_update_seq ho fun _ => #[]⟩
  have hc3 : (((copyHeap s.heap its).update (s.heap.objs.size + 1) (Obj.mapSeq fun _ => (#[] : Array Value))).push (seqObj "tuple" its.toArray 0)).objs.size = s.heap.objs.size + 3 := by rw [size_push', Heap.size_update, size0]
  have oa : (sortingHeap (copyHeap s.heap its) (s.heap.objs.size + 1) its).get? (s.heap.objs.size + 1) = some (seqObj "list" #[] e1) := Heap.get?_push_of_some _ (Heap.get?_push_of_some _ ho1)
  have oc : (sortingHeap (copyHeap s.heap its) (s.heap.objs.size + 1) its).get? (s.heap.objs.size + 3) = some (seqObj "list" #[] 0) := by
    have := Heap.get?_push_size (((copyHeap s.heap its).update (s.heap.objs.size + 1) (Obj.mapSeq fun _ => (#[] : Array Value))).push (seqObj "tuple" its.toArray 0)) (o := seqObj "list" #[] 0) rfl
    rw [hc3] at this
    exact this
  generalize hA : s.heap.objs.size + 1 = a at *
  generalize hC : s.heap.objs.size + 3 = c at *
  have nA : s.heap.objs.size ≤ a := by omega
  have nC : s.heap.objs.size ≤ c := by omega
  have hca : c ≠ a := by omega
  have notcell : ∀ (t : Array Value) (n : Nat) v, (seqObj "list" t n).data ≠ .cell v := fun t n v z => by cases z
  have lo : ∀ p ∈ X.pn ++ pins, p.1 < s.heap.objs.size := fun p hp => Heap.lt_size (I.pin p hp).1
  have fresh : ∀ b, s.heap.objs.size ≤ b → (b ∈ X.ex ∨ X.s_0.heap.objs.size ≤ b) ∧ b ≠ X.env.locals ∧ (∀ x k, X.env.cells.lookup x = some k → k ≠ b) ∧ ∀ p ∈ X.pn ++ pins, p.1 ≠ b := fun b hb =>
    ⟨.inr (Nat.le_trans I.sz hb), Nat.ne_of_gt (Nat.lt_of_lt_of_le I.lt hb), fun x k e z => by
      obtain ⟨v, o, q1, _⟩ := I.cell x k e
      exact Nat.ne_of_lt (Nat.lt_of_lt_of_le (Heap.lt_size q1) hb) z, fun p hp z => Nat.ne_of_lt (Nat.lt_of_lt_of_le (lo p hp) hb) z⟩
  -- the start
  have J0 : J X Tb pins σ H a c e1 kds 0 { s with heap := sortingHeap (copyHeap s.heap its) a its } := by
    refine ⟨H, #[], 0, [], ?_, ⟨fun _ _ z _ => z, fun b o z t => ⟨o, z, t⟩, tb0⟩, oc, I.hok.fresh nC, .nil, .nil⟩
    refine I1.pins_of fun p hp => ?_
    rcases List.mem_cons.mp hp with rfl | hp
    · exact ⟨oa, I.hok.fresh nA, (fresh a nA).2.1, I.nofs nA, notcell _ _⟩
    · exact I1.pin p (List.mem_append_right _ hp)
  -- list.sort
  rw [ksk_t1]
  unfold ksk_tree
  refine wpAny_bind (listItems_at ho rfl (wpAny_bind (listUpdate_at ho rfl (wpAny_bind (seqEpoch_at ho1 rfl (wpAny_bind (wpAny_newTuple (wpAny_bind (wpAny_newList ?_ (Nat.zero_le _))) (by show its.length ≤ _; exact hz))))) (by rw [List.size_toArray]; exact hz) (Nat.zero_le _))))
  refine wpAny_holding ?_
  show wpAny (model X.prog X.w) X.A.in1.in1 (ksk_rest a (.ref f) false its.toArray e1 (.ref (((copyHeap s.heap its).update a (Obj.mapSeq fun _ => (#[] : Array Value))).push (seqObj "tuple" its.toArray 0)).objs.size)) _ _ { s with heap := sortingHeap (copyHeap s.heap its) a its }
  rw [hc3]
  unfold ksk_rest
  refine wpAny_bind (wpAny_rule ?_)
  first
    | rw [List.forIn_toArray]
    | (rw [← Array.forIn_toList]; simp only [List.toList_toArray])
    | rw [← Array.forIn_toList]
  refine wpAny_bind (ksk_fold (J X Tb pins σ H a c e1 kds) its 0 _ J0 ?step ?done)
  case step =>
    rintro j x s' hx ⟨H', kA, e, ws, I', gr, nk, hn, rw', dp⟩
    simp only [Nat.zero_add] at dp ⊢
    have hj : j < its.length := (List.getElem?_eq_some_iff.mp hx).1
    have hj2 : j < xs.length := by rw [rv.length]; exact hj
    obtain ⟨k, hk⟩ : ∃ k, kds[j]? = some k := ⟨_, List.getElem?_eq_getElem (by omega)⟩
    obtain ⟨u2, hu2, rel⟩ := rv.get (i := j) (x := xs[j]) (by simp [hj2])
    rw [hx] at hu2
    cases hu2
    have I2 : Inv X ((c, seqObj "list" kA e) :: (a, seqObj "list" #[] e1) :: pins) σ H' s' := I'.pins_of fun p hp => by
      rcases List.mem_cons.mp hp with rfl | hp
      · exact ⟨nk, hn, (fresh c nC).2.1, I.nofs nC, notcell _ _⟩
      · exact I'.pin p (List.mem_append_right _ hp)
    refine wpAny_bind (wpAny_attempt (wpAny_mono (turn j xs[j] k (by simp [hj2]) hk _ s' H' I2 gr x rel) (fun v s2 he => ?_) fun _ _ hF => hF.elim))
    obtain ⟨kv, H2, I3, rel2, gr2, dp2⟩ := he
    obtain ⟨nk2, hn2, _⟩ := I3.pin (c, seqObj "list" kA e) (List.mem_append_right _ List.mem_cons_self)
    have I4 : Inv X ((a, seqObj "list" #[] e1) :: pins) σ H2 s2 := I3.pins_of fun p hp => I3.pin p (List.mem_append_right _ (List.mem_cons_of_mem _ hp))
    try dsimp only
    have ub := Heap.SameBut.update s2.heap c (Obj.mapSeq (·.push v))
    obtain ⟨n2, hn3⟩ : ∃ n2, (s2.heap.update c (Obj.mapSeq (·.push v))).get? c = some (seqObj "list" (kA.push v) n2) := ⟨_, get?_update_seq nk2 (·.push v)⟩
    have sk : kA.size ≤ its.length := by
      have h1 := rw'.length
      have h2 : ws.length = (kds.take j).length := dps_len dp
      have h3 : kA.toList.length = kA.size := Array.length_toList
      have h4 : (kds.take j).length = min j kds.length := List.length_take
      omega
    refine wpAny_bind (listUpdate_at nk2 rfl ?_ (Nat.le_trans sk hz) (Nat.le_trans (Nat.le_of_eq (Array.size_push ..)) (Nat.succ_le_succ (Nat.le_trans sk hz))))
    have ek : kds.take (j + 1) = kds.take j ++ [k] := by rw [List.take_add_one, hk]; simp
    refine wpAny_pure ⟨rfl, H2, kA.push v, n2, ws ++ [kv], ?_, gr.trans gr2, hn3, hn2, by rw [Array.toList_push]; exact vals_snoc rel2 rw', by rw [ek]; exact dps_snoc dp2 (dps_gr gr2 _ _ dp)⟩
    refine I4.turned (t' := s2.toks) (it := c) (fun b o hb z => (ub.2 b hb).trans z) hn2 (fresh c nC).2.1 (fresh c nC).1 (fresh c nC).2.2.1 fun p hp => ?_
    rcases List.mem_append.mp hp with hp | hp
    · exact (fresh c nC).2.2.2 p (List.mem_append_left _ hp)
    · rcases List.mem_cons.mp hp with rfl | hp
      · exact Ne.symm hca
      · exact (fresh c nC).2.2.2 p (List.mem_append_right _ hp)
  case done =>
    rintro s' ⟨H', kA, e, ws, I', gr, nk, hn, rw', dp⟩
    have e3 : kds.take (0 + its.length) = kds := List.take_of_length_le (by rw [hlen, rv.length]; omega)
    rw [e3] at dp
    have er := each_dp I' dp rw'
    have hsz : kA.size = its.length := by
      have h1 := er.length
      rw [Array.length_toList] at h1
      rw [h1, hlen, rv.length]
    obtain ⟨na, han, _⟩ := I'.pin (a, seqObj "list" #[] e1) (List.mem_append_right _ List.mem_cons_self)
    try dsimp only
    refine wpAny_bind (listItems_at nk rfl ?_)
    have mk : (xs.zip kds).map (·.2) = kds := List.map_snd_zip (by omega)
    refine k_end (κ := dataKind s'.heap kds) nk na hca (sorts_cm er hal hsk fun d hd => by have := hu d hd; show X.A.units + 2 + d.depth < cLine; omega) hsz hz fun g tk n kp hg => ⟨rfl, ?_⟩
    have ev : EachIs (fun u (b : V × PyData) => RelV b.1 u) (sortVals (dataKind s'.heap kds) false kA.toList its) ((xs.zip kds).mergeSort (dataLe false (·.2))) := by
      have := vals_cm (h' := s'.heap) (R := fun u (b : V × PyData) => RelV b.1 u) (enc := (·.2)) (ks := kA.toList) (vs := its) (bs := xs.zip kds) false (each_zip rv hlen) (by rw [mk]; exact er) (by rw [mk]; exact hal)
      rw [mk] at this
      exact this
    have rz := vals_bs ev
    have zl : (((xs.zip kds).mergeSort (dataLe false (·.2))).map (·.1)).length ≤ sizeLine := by
      rw [List.length_map, List.length_mergeSort, List.length_zip]
      omega
    have I5 : Inv X pins σ H' s' := I'.pins_of fun p hp => I'.pin p (List.mem_append_right _ (List.mem_cons_of_mem _ hp))
    have nax : ∀ {b : Addr} {o : HO}, H' b = some o → b ≠ a := fun {b o} z y => by rw [y, han] at z; cases z
    have ncx : ∀ {b : Addr} {o : HO}, H' b = some o → b ≠ c := fun {b o} z y => by rw [y, hn] at z; cases z
    refine ⟨.ref a, upd H' a (.lst (((xs.zip kds).mergeSort (dataLe false (·.2))).map (·.1))), ?_, rfl, q H' a gr han⟩
    refine I5.call (h' := g) (g' := s'.gens) (d' := s'.drawn) (t' := tk) (ch := [a, c]) ⟨fun b o z _ _ hx => kp b o (fun y => hx (by simp [y])) (fun y => hx (by simp [y])) z, fun b o z _ _ hx => ⟨o.slots, kp b o (fun y => hx (by simp [y])) (fun y => hx (by simp [y])) z⟩,
      fun b o z n hx => by rw [upd_ne (fun y => hx (by simp [y]))]; exact n, fun b o z hx => ⟨o, kp b o (fun y => hx (by simp [y])) (fun y => hx (by simp [y])) z⟩, fun b t z => by rw [upd_ne (nax z)]; exact z, fun b o t z => by rw [upd_ne (nax z)]; exact z,
      fun b t z => ⟨#[], by rw [upd_ne (nax z), z]; simp⟩⟩ (fun b o z => ?_) I5.bare fun b hb => ?_
    · by_cases hb : b = a
      · subst hb
        rw [upd_same] at z
        cases z
        exact ⟨zl, _, n, rz, hg⟩
      · rw [upd_ne hb] at z
        refine (I5.hok b o z).stay (fun d v hd y => ?_) (fun d y => by rw [upd_ne (nax y)]; exact y) fun d t y => by rw [upd_ne (nax y)]; exact y
        rcases hd with rfl | hd
        · exact kp d v (nax z) (ncx z) y
        · exact kp d v (nax hd) (ncx hd) y
    · rcases List.mem_cons.mp hb with rfl | hb
      · exact fresh b nA
      · rcases List.mem_cons.mp hb with rfl | hb
        · exact fresh b nC
        · cases hb
end
end Kz


set_option Elab.async false
set_option linter.all false
set_option maxRecDepth 100000
set_option maxHeartbeats 2000000
/-! EvX: str(i), isinstance of two classes, sorted(xs, key=f). -/
namespace Ev
open PySem PySem.W
open L2 (V Hp HO SqL SqT Rd upd upd_same upd_ne Same TE VK PE PT PW PA XK Sp FnOk Binds Room CX0 E0 Cx OpR CallR R2 Vals RelV Inv EP)
open Kz (Gr)
section
variable {g : Gd} {c : Cc} {pos : Pos} {e : Expr} {i : E}
theorem boot_str : bootBuiltins "str" = some (.type "str") := by decide +kernel
theorem se_sti {gt : List (Str × Gv)} (gk : GOk g gt) (hc : c.gt = gt) {p : Pos} (hf : globV c "str" = some .blt) (hs : isStar e = false) (ha : SE g c e i) : SE g c (.Call (.Name "str" p) [e] [] pos) (.sti i) := by
  obtain ⟨t, h1, h2⟩ := ha
  obtain ⟨h5, h6, h7⟩ := globV_of hf
  obtain ⟨o1, o2, o3⟩ := okName_of h7
  refine ⟨L2.tCB (fun xs H Q => ∃ i, xs = [.int i] ∧ i.natAbs.log2 < 1920 ∧ Q (.str (toString i)) H) (L2.tCons t L2.tNil), fun X hX => ?_, fun b σV ρ F H s Q rl h => ?_⟩
  · exact L2.pe_callTy L2.call_str_int (hX.gl hf) (by rw [hX.mg]; exact gk.blt _ (hc ▸ h6)) boot_str (L2.pa_cons (h1 X hX) L2.pa_nil (star_no hs _ _)) o3 o1 (star_no hs [] X.env) rfl
  · simp only [evE] at h
    refine h.step (T := fun Q' => t σV H Q') (fun Q' q => h2 _ _ _ _ _ _ _ rl q) fun x s1 v ρ1 F1 H1 _ e1 r1 p1 q1 => ?_
    split at q1
    · rename_i j z
      rw [z] at p1
      simp only [Rep] at p1
      subst p1
      obtain ⟨hz, q2⟩ := q1.ite
      exact ⟨j, rfl, hz, q2.fin r1 (by simp only [RepR, Rep])⟩
    · exact q1.elim
theorem se_isu {gt : List (Str × Gv)} (gk : GOk g gt) (hc : c.gt = gt) {f x y : Str} {t u : Ty} {p p2 p3 p4 : Pos} {k0 : _} (hf : isBlt c f "isinstance" = true) (hx : isBlt c x x = true) (hy : isBlt c y y = true) (ht : tyO x = some t) (hu : tyO y = some u) (hs : isStar e = false) (ha : SE g c e i) :
    SE g c (.Call (.Name f p) [e, .Tuple [.Name x p2, .Name y p3] k0 p4] [] pos) (.isu i t u) := by
  obtain ⟨t', h1, h2⟩ := ha
  obtain ⟨rfl, h3⟩ := isBlt_of hf
  obtain ⟨_, h4⟩ := isBlt_of hx
  obtain ⟨_, h4'⟩ := isBlt_of hy
  obtain ⟨h5, h6, h7⟩ := globV_of h3
  obtain ⟨h8, h9, h10⟩ := globV_of h4
  obtain ⟨h8', h9', h10'⟩ := globV_of h4'
  obtain ⟨_, hb⟩ := tyO_of ht
  obtain ⟨_, hb'⟩ := tyO_of hu
  obtain ⟨o1, o2, o3⟩ := okName_of h7
  obtain ⟨o4, o5, o6⟩ := okName_of h10
  obtain ⟨o4', o5', o6'⟩ := okName_of h10'
  refine ⟨L2.tCB (L2.rIsiT g.K) (L2.tCons t' (L2.tCons (L2.tTup (L2.tCons (L2.tC (.ty (tyS t))) (L2.tCons (L2.tC (.ty (tyS u))) L2.tNil))) L2.tNil)), fun X hX => ?_, fun b σV ρ F H s Q rl h => ?_⟩
  · refine L2.pe_callB (by rw [← hX.K]; exact L2.call_isiT) (hX.gl h3) (by rw [hX.mg]; exact gk.blt _ (hc ▸ h6)) boot_isi ?_ o3 o1 (star_no hs _ _) rfl
    exact L2.pa_cons (h1 X hX) (L2.pa_cons (L2.pe_tup (L2.pa_cons (L2.pe_bltn (v := .ty (tyS t)) (hX.gl h4) (by rw [hX.mg]; exact gk.blt _ (hc ▸ h9)) hb rfl o6 o4) (L2.pa_cons (L2.pe_bltn (v := .ty (tyS u)) (hX.gl h4') (by rw [hX.mg]; exact gk.blt _ (hc ▸ h9')) hb' rfl o6' o4') L2.pa_nil rfl) rfl)) L2.pa_nil rfl) (star_no hs _ _)
  · simp only [evE] at h
    refine h.step (T := fun Q' => t' σV H Q') (fun Q' q => h2 _ _ _ _ _ _ _ rl q) fun x s1 v ρ1 F1 H1 _ e1 r1 p1 q1 => ?_
    obtain ⟨k, e3, q3⟩ := q1.opt
    cases ea : isTy t x.fz with
    | none => rw [ea] at e3; cases e3
    | some b1 =>
      cases eb : isTy u x.fz with
      | none => rw [ea, eb] at e3; cases e3
      | some b2 =>
        rw [ea, eb] at e3
        have ek : (b1 || b2) = k := Option.some.inj e3
        have ty := ty_ok p1 (isTy_ref ea)
        have k1 := L2.kit_ty (K := g.K) (kit_of ea)
        have k2 := L2.kit_ty (K := g.K) (kit_of eb)
        refine ⟨by show (2 : Nat) ≤ sizeLine; decide, fun p hp => ?_⟩
        refine ⟨v, p, [.ty (tyS t), .ty (tyS u)], _, [.type (tyS t), .type (tyS u)], k, rfl, upd_same, .cons (.ty _) (.cons (.ty _) .nil), ty_ok (Rep.mono (ExS.same (same_upd hp)) _ _ p1) (isTy_ref ea), ?_, ?_⟩
        · unfold PySem.W.kitAny
          rw [k1]
          cases b1 with
          | true => rw [← ek]; rfl
          | false =>
            show PySem.W.kitAny g.K _ [_] = _
            unfold PySem.W.kitAny
            rw [k2, ← ek]
            cases b2 <;> rfl
        · exact q3.fin' (same_upd hp) r1 (by simp only [RepR, Rep])
end
/-! ### sorted(xs, key=f) -/
section
variable {K : PySem.W.Frag} {Tb : Addr → Prop} {b : Bx} {σV : L2.St} {ρ : List Addr} {F : Addr → Prop} {H H' : Hp} {s : S}
theorem Rl.gr (r : Rl K Tb b σV ρ F H s) (g : Gr Tb H H') : Rl K Tb b σV ρ F H' s where
  len := r.len
  val := fun i d e => let ⟨v, q, p⟩ := r.val i d e; ⟨v, q, Rep.mono (ExE.toS ⟨fun _ _ h => h, fun _ h => h, fun a o q _ t => g.keep a o q t, g.tbl, fun _ h => .inl h⟩ r) _ _ p⟩
  own := fun i l e => let ⟨a, vs, q, o⟩ := r.own i l e; ⟨a, vs, q, o.mono (ExE.toS ⟨fun _ _ h => h, fun _ h => h, fun a o q _ t => g.keep a o q t, g.tbl, fun _ h => .inl h⟩ r) (g.keep _ _ o.at_ id) o.nf o.nr⟩
  apart := r.apart
  mem := fun n l e => let ⟨a, vs, q, p, t⟩ := r.mem n l e; ⟨a, vs, q, g.keep _ _ p t.chg.2, t.mono (ExE.toS ⟨fun _ _ h => h, fun _ h => h, fun a o q _ t => g.keep a o q t, g.tbl, fun _ h => .inl h⟩ r)⟩
  ml := r.ml
  nd := r.nd
  rf := r.rf
  rn := r.rn
  ft := fun a f => let ⟨o, q, t⟩ := r.ft a f; ⟨o, g.keep _ _ q t, t⟩
  fn := r.fn
  old := fun a o q n t => g.keep _ _ (r.old a o q n t) t
  oldT := fun a o q t => by
    obtain ⟨o1, q1, t1⟩ := r.oldT a o q t
    exact g.tbl a o1 q1 t1
  pt := fun a p => ⟨(r.pt a p).1, let ⟨o, q, t⟩ := (r.pt a p).2; ⟨o, g.keep _ _ q t, t⟩⟩
  bp := r.bp
  tab := g.tab
mutual
theorem noref : ∀ (d : D) (v : V), rfB0 d = true → Rep K ρ F H d v → Rep K [] F H d v
  | .non, _, _, h => by simp only [Rep] at h ⊢; exact h
  | .bl _, _, _, h => by simp only [Rep] at h ⊢; exact h
  | .int _, _, _, h => by simp only [Rep] at h ⊢; exact h
  | .str _, _, _, h => by simp only [Rep] at h ⊢; exact h
  | .tup l, _, z, h => by
    simp only [Rep] at h ⊢
    obtain ⟨a, vs, e, q, r⟩ := h
    exact ⟨a, vs, e, q, norefs l vs z r⟩
  | .lst l, _, z, h => by
    simp only [Rep] at h ⊢
    obtain ⟨a, vs, e, q, r⟩ := h
    exact ⟨a, vs, e, q, norefs l vs z r⟩
  | .dic _ l, _, z, h => by
    simp only [Rep] at h ⊢
    obtain ⟨a, kvs, e, f, q, n, r⟩ := h
    exact ⟨a, kvs, e, f, q, n, norefs l _ z r⟩
  | .tpx l, _, z, h => by
    simp only [Rep] at h ⊢
    obtain ⟨a, vs, o, e, q, n, r⟩ := h
    exact ⟨a, vs, o, e, q, n, norefs l vs z r⟩
  | .ref _, _, z, _ => by cases z
theorem norefs : ∀ (l : List D) (vs : List V), rfB0s l = true → Reps K ρ F H l vs → Reps K [] F H l vs
  | [], _, _, h => by simp only [Reps] at h ⊢; exact h
  | d :: l, vs, z, h => by
    simp only [rfB0s, Bool.and_eq_true] at z
    simp only [Reps] at h ⊢
    obtain ⟨v, r, e, p, q⟩ := h
    exact ⟨v, r, e, noref d v z.1 p, norefs l r z.2 q⟩
end
theorem keysC_at {C : Calls} {n : Nat} : ∀ {l ks : List D}, keysC C n l = some ks → ks.length = l.length ∧ ∀ (j : Nat) d k, l[j]? = some d → ks[j]? = some k → rfB0 d = true ∧ ∃ M, C n [d] [] = .ok (.val k, M)
  | [], ks, h => by cases h; exact ⟨rfl, fun j d k z => by simp at z⟩
  | x :: l, ks, h => by
    unfold keysC at h
    split at h
    · rename_i hz
      split at h
      · rename_i k0 M0 hk
        cases hr : keysC C n l with
        | none => rw [hr] at h; cases h
        | some ks' =>
          rw [hr] at h
          cases h
          obtain ⟨a1, a2⟩ := keysC_at hr
          refine ⟨by rw [List.length_cons, List.length_cons, a1], fun j d k q1 q2 => ?_⟩
          cases j with
          | zero => cases q1; cases q2; exact ⟨hz, M0, hk⟩
          | succ j => exact a2 j d k q1 q2
      · cases h
    · cases h
theorem Reps.get' : ∀ {ds : List D} {vs : List V} {j : Nat} {v : V}, Reps K ρ F H ds vs → vs[j]? = some v → ∃ d, ds[j]? = some d ∧ Rep K ρ F H d v
  | [], _, _, _, h, e => by simp only [Reps] at h; subst h; simp at e
  | d :: ds, _, j, v, h, e => by
    simp only [Reps] at h
    obtain ⟨u, r, rfl, p, q⟩ := h
    cases j with
    | zero => cases e; exact ⟨d, rfl, p⟩
    | succ j => exact Reps.get' (j := j) q e
end
/-- what is wanted ahead of sorted(xs, key=f) -/
def rSrk (g : Gd) (n : Nat) (fa : Addr) : List V → List V → Hp → VK → Prop := fun vs zs H Q => ∃ (a : Addr) (xs : List V) (kds : List PyData), vs = [.ref a] ∧ zs = [.ref fa] ∧ SqL g.K H a xs ∧ kds.length = xs.length ∧ (∀ P, g.Tb P → GxR.TabG H P) ∧ Kz.AllCm kds ∧ Sortable kds ∧
  (∀ d, d ∈ kds → d.depth ≤ 60) ∧ (∀ (j : Nat) (v : V) (k : PyData), xs[j]? = some v → kds[j]? = some k → ∀ H', Gr g.Tb H H' → spOf g.K g.Tb g.C n 1 [v] H' (fun kv H2 => Gr g.Tb H' H2 ∧ L2.Dp g.K H2 kv k) E0) ∧
  ∀ (H' : Hp) (p : Addr), Gr g.Tb H H' → H' p = none → Q (.ref p) (upd H' p (.lst (((xs.zip kds).mergeSort (dataLe false (·.2))).map (·.1))))
theorem cr_srk {g : Gd} {c : Cc} {X : Cx} {n : Nat} {fa : Addr} {fd : FuncData} {ps : List Str} (hX : XOk g c X) (hgl : 1 ≤ c.gl) (F : FnOk g.P g.w g.K g.mg g.base CX0 g.k fa fd ps (spOf g.K g.Tb g.C n 1)) (hb : Binds g.K fd ps []) (hp : ps.length = 1) :
    L2.CallRK X (.builtin "sorted") [Str.ofString "key"] (rSrk g n fa) := by
  intro pins s σ H vs zs us ws Q I r rz h
  obtain ⟨a, xs, kds, rfl, rfl, hs, hl, ht, hal, hsk, hd, hcall, q⟩ := h
  obtain rfl := Vals.ref1 r
  obtain ⟨w1, rfl, e1⟩ := L2.vals1 rz
  obtain rfl : w1 = Value.ref fa := e1
  have rm := hX.room
  have mg : min 1 c.gl = 1 := by omega
  rw [mg] at rm
  refine Kz.sorted_keyI (Tb := g.Tb) I (by rw [hX.K]; exact hs) hl ht hal hsk (fun d hz => by have := hd d hz; have := rm.un; omega) (fun j v k hv hk pins' s' H' I' gr u ru => ?_) q
  have r2 : Vals ([v] ++ []) ([u] ++ []) := .cons ru .nil
  have rm2 : Room g.k X.A.in1.in1 := ⟨rm.hd, by have := rm.dp; show X.A.depth + 3 * g.k + 5 < _; omega, by have := rm.un; show X.A.units + 1 + 1 + 16 * g.k + 200 < _; omega⟩
  have F' : FnOk X.prog X.w X.K X.mg X.base CX0 g.k fa fd ps (spOf g.K g.Tb g.C n 1) := by rw [hX.P, hX.w, hX.K, hX.mg, hX.base]; exact F
  have hb' : Binds X.K fd ps [] := by rw [hX.K]; exact hb
  refine wpAny_call (codeAny_mono (F'.run X.A.in1.in1 X.stack s' H' ⟨[u], []⟩ ([u] ++ []) ([v] ++ []) _ E0 rm2 I'.env0.in1.in1 (hb' s' [u] I'.kIn (by rw [hp]; rfl)) r2 (hcall j v k hv hk H' gr)) fun r s'' hq => ?_)
  cases r with
  | error e => exact False.elim hq
  | ok fl =>
    cases fl with
    | ret u => rw [hX.K]; exact I'.after hq
    | next => exact False.elim hq
    | brk => exact False.elim hq
    | cont => exact False.elim hq
section
variable {g : Gd} {c : Cc} {pos : Pos} {e : Expr} {i : E}
theorem se_srk {gt : List (Str × Gv)} (gk : GOk g gt) (hc : c.gt = gt) {f x : Str} {n : Nat} {p p2 kp : Pos} (hf : isBlt c f "sorted" = true) (hx : globV c x = some (.fn n 1)) (hgl : 1 ≤ c.gl) (hs : isStar e = false) (ha : SE g c e i) :
    SE g c (.Call (.Name f p) [e] [⟨some "key", .Name x p2, kp⟩] pos) (.srk i n) := by
  obtain ⟨t, h1, h2⟩ := ha
  obtain ⟨rfl, h3⟩ := isBlt_of hf
  obtain ⟨h5, h6, h7⟩ := globV_of h3
  obtain ⟨o1, o2, o3⟩ := okName_of h7
  obtain ⟨h8, h9, h10⟩ := globV_of hx
  obtain ⟨o4, o5, o6⟩ := okName_of h10
  obtain ⟨fa, fd, ps, k1, k2, k3, k4, k5⟩ := gk.fn x n 1 (hc ▸ h9)
  refine ⟨L2.tCKw (rSrk g n fa) (L2.tCons t L2.tNil) (L2.tCons (L2.tC (.ref fa)) L2.tNil), fun X hX => ?_, fun b σV ρ F H s Q rl h => ?_⟩
  · refine L2.pe_callBK (cr_srk hX hgl k3 k4 k5) (hX.gl h3) (by rw [hX.mg]; exact gk.blt _ (hc ▸ h6)) (by decide +kernel) (L2.pa_cons (h1 X hX) L2.pa_nil (star_no hs _ _)) (L2.pk_cons (L2.pe_glob (hX.gl hx) (by rw [hX.mg]; exact k1) rfl o4) L2.pk_nil) o3 o1 ?_ ?_ rfl rfl rfl
    · rw [star_no hs]; rfl
    · rw [star_no hs]; rfl
  · simp only [evE] at h
    refine h.step (T := fun Q' => t σV H Q') (fun Q' q => h2 _ _ _ _ _ _ _ rl q) fun y s1 v ρ1 F1 H1 _ e1 r1 p1 q1 => ?_
    have pI := drI r1 p1
    split at q1
    · rename_i l hl
      rw [hl] at pI
      obtain ⟨kr, e3, q3⟩ := q1.opt
      simp only [RepI, Rep] at pI
      obtain ⟨a, xs, rfl, sq, rp⟩ := pI
      unfold srkD at e3
      cases hk : keysC g.C n l with
      | none => rw [hk] at e3; cases e3
      | some ks =>
        rw [hk] at e3
        have e3' : (if cmOk ks = true then some (srkL l ks) else none) = some kr := e3
        split at e3'
        · rename_i ho
          cases e3'
          obtain ⟨kl, kat⟩ := keysC_at hk
          obtain ⟨c1, c2, c3, c4⟩ := cmOk_of ho
          have mo := r1.memOk
          refine ⟨a, xs, ks.map toPy, rfl, rfl, sq, by rw [List.length_map, kl, rp.length], r1.tab, allCm_of ho, sortable_of c2, fun d hd => ?_, fun j v k hv hk' H' gr => ?_, fun H' p gr hp => ?_⟩
          · obtain ⟨z, hz, rfl⟩ := List.mem_map.mp hd
            exact (c4 z hz).2
          · obtain ⟨d, hd, rd⟩ := Reps.get' rp hv
            rw [List.getElem?_map] at hk'
            cases hkj : ks[j]? with
            | none => rw [hkj] at hk'; cases hk'
            | some kd =>
              rw [hkj] at hk'
              cases hk'
              obtain ⟨nr, M', hc'⟩ := kat j d kd hd hkj
              refine ⟨rfl, [d], [], F1, [], ?_, ⟨fun n o z => by simp at z, rfl, List.nodup_nil, fun a z => by simp at z, fun a z => ?_, gr.tab⟩, ?_⟩
              · refine Reps.one (Rep.mono (ρ := []) (F := F1) (H := H1) ⟨fun _ _ h => h, fun _ h => h, fun a o q kk => ?_⟩ _ _ (noref d v nr rd))
                refine gr.keep a o q fun t => ?_
                rcases kk with kk | kk
                · obtain ⟨o2, q2, t2⟩ := r1.ft a kk
                  rw [q] at q2
                  cases q2
                  exact t2 t
                · cases o <;> first | exact t | exact kk trivial
              · obtain ⟨o, z1, z2⟩ := r1.ft a z
                exact ⟨o, gr.keep _ _ z1 z2, z2⟩
              · rw [hc']
                intro v' ρ' F' H2 ex fn mem rep
                exact ⟨⟨fun a o q t => ex.all a o q (by simp) t, ex.tbl, mem.2.2.2.2.2⟩, Rep.dp kd v' (pyOks_mem c1 _ (List.mem_of_getElem? hkj)) rep⟩
          · obtain ⟨bs, rfl, rfl, hbs⟩ := Reps.pairs rp
            rw [List.length_map] at kl
            have m1 : (bs.map (·.1)).zip (ks.map toPy) = (bs.zip ks).map fun z => (z.1.1, toPy z.2) := by rw [List.zip_map]; rfl
            have m2 : (bs.map (·.2)).zip ks = (bs.zip ks).map fun z => (z.1.2, z.2) := by
              have := List.zip_map (f := fun b : V × D => b.2) (g := id) (l₁ := bs) (l₂ := ks)
              rw [List.map_id] at this
              exact this
            have s1' : ((bs.map (·.1)).zip (ks.map toPy)).mergeSort (dataLe false (·.2)) = ((bs.zip ks).mergeSort (dataLe false fun z => toPy z.2)).map fun z => (z.1.1, toPy z.2) := by
              rw [m1]
              exact (List.map_mergeSort (f := fun z : (V × D) × D => (z.1.1, toPy z.2)) (r := dataLe false fun z : (V × D) × D => toPy z.2) (s := dataLe false fun z : V × PyData => z.2) (l := bs.zip ks) fun _ _ _ _ => rfl).symm
            have s2' : ((bs.map (·.2)).zip ks).mergeSort (dataLe false fun z => toPy z.2) = ((bs.zip ks).mergeSort (dataLe false fun z => toPy z.2)).map fun z => (z.1.2, z.2) := by
              rw [m2]
              exact (List.map_mergeSort (f := fun z : (V × D) × D => (z.1.2, z.2)) (r := dataLe false fun z : (V × D) × D => toPy z.2) (s := dataLe false fun z : D × D => toPy z.2) (l := bs.zip ks) fun _ _ _ _ => rfl).symm
            have rg := r1.gr gr
            have rs : Reps g.K ρ1 F1 H' (srkL (bs.map (·.2)) ks) ((((bs.map (·.1)).zip (ks.map toPy)).mergeSort (dataLe false (·.2))).map (·.1)) := by
              unfold srkL
              rw [s1', s2', List.map_map, List.map_map]
              have all : ∀ z ∈ (bs.zip ks).mergeSort (dataLe false fun z : (V × D) × D => toPy z.2), Rep g.K ρ1 F1 H' z.1.2 z.1.1 := fun z hz => by
                have hz' : z ∈ bs.zip ks := (List.mergeSort_perm _ _).mem_iff.mp hz
                have hb1 : z.1 ∈ bs := (List.of_mem_zip (show (z.1, z.2) ∈ bs.zip ks from hz')).1
                exact Rep.mono (ExE.toS ⟨fun _ _ h => h, fun _ h => h, fun a o q _ t => gr.keep a o q t, gr.tbl, fun _ h => .inl h⟩ r1) _ _ (hbs z.1 hb1)
              generalize (bs.zip ks).mergeSort (dataLe false fun z : (V × D) × D => toPy z.2) = T at all
              clear s1' s2' m1 m2
              induction T with
              | nil => exact Reps.nil
              | cons z T ih => exact Reps.cons (all z List.mem_cons_self) (ih fun y hy => all y (List.mem_cons_of_mem _ hy))
            exact q3 _ ρ1 F1 _ ⟨fun _ _ h => h, fun _ h => h, fun a o q _ t => (same_upd hp) _ _ (gr.keep a o q t), fun a o q t => by
              obtain ⟨o1, z1, z2⟩ := gr.tbl a o q t
              exact ⟨o1, (same_upd hp) _ _ z1, z2⟩, fun _ h => .inl h⟩ (rg.same (same_upd hp)) (RepR.new rg hp rs)
        · cases e3'
    · exact q1.elim
theorem se_srk2 {gt : List (Str × Gv)} (gk : GOk g gt) (hc : c.gt = gt) {f : Str} {kws : List Keyword} {n : Nat} {p : Pos} (hk : keyFn c f kws = some n) (hs : isStar e = false) (ha : SE g c e i) : SE g c (.Call (.Name f p) [e] kws pos) (.srk i n) := by
  unfold keyFn at hk
  split at hk
  · split at hk
    · rename_i h0
      obtain ⟨h1, rfl, h3⟩ := h0
      split at hk
      · rename_i hx
        split at hk
        · rename_i ha1
          subst ha1
          cases hk
          exact se_srk gk hc h1 hx h3 hs ha
        · cases hk
      · cases hk
    · cases hk
  · cases hk
theorem isBlt_mk {x : Str} (h : globV c x = some .blt) : isBlt c x x = true := by
  unfold isBlt
  rw [h, decide_eq_true rfl]
  rfl
theorem se_isu2 {gt : List (Str × Gv)} (gk : GOk g gt) (hc : c.gt = gt) {b : Expr} {t u : Ty} {p : Pos} (hf : globV c "isinstance" = some .blt) (ht : twoTy c b = some (t, u)) (hs : isStar e = false) (ha : SE g c e i) : SE g c (.Call (.Name "isinstance" p) [e, b] [] pos) (.isu i t u) := by
  unfold twoTy at ht
  split at ht
  · rename_i t1 p1 u1 p2 k0 p3
    by_cases h0 : isBlt c t1 t1 = true ∧ isBlt c u1 u1 = true
    · rw [if_pos h0] at ht
      cases h1 : tyO t1 with
      | none => rw [h1] at ht; cases ht
      | some a =>
        cases h2 : tyO u1 with
        | none => rw [h1, h2] at ht; cases ht
        | some b =>
          rw [h1, h2] at ht
          cases ht
          exact se_isu gk hc (isBlt_mk hf) h0.1 h0.2 h1 h2 hs ha
    · rw [if_neg h0] at ht; cases ht
  · cases ht
end
end Ev


set_option Elab.async false
set_option linter.all false
set_option maxRecDepth 100000
set_option maxHeartbeats 4000000
/-! EvN: what the way from the syntax yields stands for the code. -/
namespace Ev
open PySem
open L2 (V Hp HO Cx)
theorem bnd {α β : Type} {o : Option α} {f : α → Option β} {b : β} (h : o.bind f = some b) : ∃ a, o = some a ∧ f a = some b := by
  cases o with
  | none => cases h
  | some a => exact ⟨a, rfl, h⟩
theorem mpd {α β : Type} {o : Option α} {f : α → β} {b : β} (h : o.map f = some b) : ∃ a, o = some a ∧ f a = b := by
  cases o with
  | none => cases h
  | some a => exact ⟨a, rfl, Option.some.inj h⟩
theorem itp {α : Type} {p : Prop} [Decidable p] {x y : Option α} {b : α} (h : (if p then x else y) = some b) : (p ∧ x = some b) ∨ (¬ p ∧ y = some b) := by
  by_cases k : p
  · rw [if_pos k] at h; exact .inl ⟨k, h⟩
  · rw [if_neg k] at h; exact .inr ⟨k, h⟩
section
variable {g : Gd} {c : Cc}
theorem tg_ok : ∀ (n : Nat), (∀ (e : Expr) (t : Tg), cTg c n e = some t → STg g c e t ∧ isStar e = false) ∧ (∀ (es : List Expr) (ts : Tgs), cTgs c n es = some ts → STgs g c es ts ∧ es.all (fun e => !isStar e) = true ∧ es.length = lenTgs ts)
  | 0 => by
    refine ⟨fun e t h => ?_, fun es ts h => ?_⟩
    · have z : cTg c 0 e = none := by cases e <;> rfl
      rw [z] at h; cases h
    · have z : cTgs c 0 es = none := by cases es <;> rfl
      rw [z] at h; cases h
  | n + 1 => by
    obtain ⟨h1, h2⟩ := tg_ok n
    refine ⟨fun e t h => ?_, fun es ts h => ?_⟩
    · unfold cTg at h
      split at h
      · obtain ⟨i, e1, e2⟩ := mpd h
        subst e2
        exact ⟨stg_nm e1, rfl⟩
      · rename_i hz
        obtain ⟨i, e1, e2⟩ := mpd h
        subst e2
        cases hz
        obtain ⟨k1, k2, k3⟩ := h2 _ _ e1
        exact ⟨stg_tp k2 k3 k1, rfl⟩
      · cases h
    · unfold cTgs at h
      split at h
      · cases h
        exact ⟨stgs_nil, rfl, rfl⟩
      · rename_i hz
        cases hz
        obtain ⟨t, e1, e2⟩ := bnd h
        obtain ⟨us, e3, e4⟩ := mpd e2
        subst e4
        obtain ⟨k1, k2⟩ := h1 _ _ e1
        obtain ⟨k3, k4, k5⟩ := h2 _ _ e3
        refine ⟨stgs_cons k2 k1 k3, ?_, ?_⟩
        · simp only [List.all_cons, k2, k4, Bool.not_false, Bool.true_and]
        · simp only [List.length_cons, k5, lenTgs]
      · cases h
end
structure Ok (g : Gd) (gt : List (Str × Gv)) (n : Nat) : Prop where
  e : ∀ (c : Cc) x i, c.gt = gt → cE n c x = some i → SE g c x i
  es : ∀ (c : Cc) xs is, c.gt = gt → cEs n c xs = some is → SEs g c xs is ∧ lenEs is = xs.length ∧ xs.all (fun e => !isStar e) = true
  ps : ∀ (c : Cc) ks vs is, c.gt = gt → cPs n c ks vs = some is → SPs g c ks vs is
  o : ∀ (c : Cc) x i, c.gt = gt → cO n c x = some i → SO g c x i
  b : ∀ (c : Cc) x i, c.gt = gt → cB n c x = some i → SB g c x i
  w : ∀ (c : Cc) op r p i, c.gt = gt → cB n c (.BoolOp op r p) = some i → SW g c (.BoolOp op r p) i
  k : ∀ (c : Cc) a os bs p i, c.gt = gt → cE n c (.Compare a os bs p) = some i → SB g c (.Compare a os bs p) (.of i)
  i : ∀ (c : Cc) tg x i, c.gt = gt → cI n c tg x = some i → SI g c tg x i ∧ isSet x = false
section
variable {g : Gd} {gt : List (Str × Gv)} {n : Nat} {c : Cc}
theorem es_call (gk : GOk g gt) (hc : c.gt = gt) {f : Str} {i ar : Nat} {es : List Expr} {is : Es} {p pos : Pos} (hf : globV c f = some (.fn i ar)) (har : ar = es.length) (h : SEs g c es is ∧ lenEs is = es.length ∧ es.all (fun e => !isStar e) = true) :
    SE g c (.Call (.Name f p) es [] pos) (.call i is) :=
  se_call gk hc hf (har.trans h.2.1.symm) (fun e => by
    subst e
    cases is with
    | nil => rfl
    | cons a b => have := h.2.1; simp [lenEs] at this) h.2.2 h.1
theorem isTup_of {e : Expr} (h : isTup e = true) : ∃ es k p, e = .Tuple es k p := by
  cases e <;> first | (cases h; done) | exact ⟨_, _, _, rfl⟩
theorem ok_es (I : Ok g gt n) (c : Cc) (xs : List Expr) (is : Es) (hc : c.gt = gt) (h : cEs (n + 1) c xs = some is) : SEs g c xs is ∧ lenEs is = xs.length ∧ xs.all (fun e => !isStar e) = true := by
  unfold cEs at h
  split at h
  · cases h; exact ⟨ses_nil, rfl, rfl⟩
  · rename_i hz
    cases hz
    rcases itp h with ⟨_, z⟩ | ⟨hs, z⟩
    · cases z
    · obtain ⟨e1, h1, h2⟩ := bnd z
      obtain ⟨e2, h3, h4⟩ := mpd h2
      subst h4
      obtain ⟨k1, k2, k3⟩ := I.es _ _ _ hc h3
      have hs' := Bool.eq_false_iff.mpr hs
      exact ⟨ses_cons hs' (I.e _ _ _ hc h1) k1, by simp only [lenEs, List.length_cons, k2], by simp only [List.all_cons, hs', k3, Bool.not_false, Bool.true_and]⟩
  · cases h
theorem ok_ps (I : Ok g gt n) (c : Cc) (ks : List (Option Expr)) (vs : List Expr) (is : Es) (hc : c.gt = gt) (h : cPs (n + 1) c ks vs = some is) : SPs g c ks vs is := by
  unfold cPs at h
  split at h
  · cases h; exact sps_nil
  · rename_i hz
    cases hz
    obtain ⟨e1, h1, h2⟩ := bnd h
    obtain ⟨e2, h3, h4⟩ := bnd h2
    obtain ⟨e3, h5, h6⟩ := mpd h4
    subst h6
    exact sps_cons (I.e _ _ _ hc h1) (I.e _ _ _ hc h3) (I.ps _ _ _ _ hc h5)
  · cases h
theorem ok_o (I : Ok g gt n) (c : Cc) (x : Option Expr) (i : E) (hc : c.gt = gt) (h : cO (n + 1) c x = some i) : SO g c x i := by
  unfold cO at h
  split at h
  · cases h; exact so_none
  · rename_i hz
    cases hz
    obtain ⟨e1, h1, h2⟩ := bnd h
    rcases itp h2 with ⟨_, z⟩ | ⟨hn, z⟩
    · cases z
    · cases z
      exact so_some (Bool.eq_false_iff.mpr hn) (I.e _ _ _ hc h1)
  · cases h
theorem ok_i (gk : GOk g gt) (I : Ok g gt n) (c : Cc) (tg x : Expr) (i : Ev.I) (hc : c.gt = gt) (h : cI (n + 1) c tg x = some i) : SI g c tg x i ∧ isSet x = false := by
  unfold cI at h
  split at h
  · rename_i hz
    cases hz
    refine ⟨?_, rfl⟩
    rcases itp h with ⟨hr, z⟩ | ⟨_, z⟩
    · split at z
      · rcases itp z with ⟨_, z⟩ | ⟨hs, z⟩
        · cases z
        · obtain ⟨e1, h1, h2⟩ := mpd z
          subst h2
          exact si_rng1 gk hc hr (Bool.eq_false_iff.mpr hs) (I.e _ _ _ hc h1)
      · rcases itp z with ⟨_, z⟩ | ⟨hs, z⟩
        · cases z
        · obtain ⟨e1, h1, h2⟩ := bnd z
          obtain ⟨e2, h3, h4⟩ := mpd h2
          subst h4
          simp only [Bool.or_eq_true, not_or, Bool.not_eq_true] at hs
          exact si_rng2 gk hc hr hs.1 hs.2 (I.e _ _ _ hc h1) (I.e _ _ _ hc h3)
      · rcases itp z with ⟨_, z⟩ | ⟨hs, z⟩
        · cases z
        · obtain ⟨e1, h1, h2⟩ := bnd z
          obtain ⟨e2, h3, h4⟩ := bnd h2
          obtain ⟨e3, h5, h6⟩ := mpd h4
          subst h6
          simp only [Bool.or_eq_true, not_or, Bool.not_eq_true] at hs
          exact si_rng3 gk hc hr hs.1.1 hs.1.2 hs.2 (I.e _ _ _ hc h1) (I.e _ _ _ hc h3) (I.e _ _ _ hc h5)
      · cases z
    · rcases itp z with ⟨hr, z⟩ | ⟨_, z⟩
      · split at z
        · rcases itp z with ⟨_, z⟩ | ⟨hs, z⟩
          · cases z
          · obtain ⟨e1, h1, h2⟩ := mpd z
            subst h2
            simp only [not_or, Bool.not_eq_true, Bool.not_eq_false] at hs
            obtain ⟨hs1, hs2⟩ := hs
            obtain ⟨es, kk, pt, ht⟩ := isTup_of hs2
            subst ht
            exact si_enm gk hc hr hs1 (I.e _ _ _ hc h1)
        · cases z
      · rcases itp z with ⟨hr, z⟩ | ⟨_, z⟩
        · split at z
          · rcases itp z with ⟨_, z⟩ | ⟨hs, z⟩
            · cases z
            · obtain ⟨e1, h1, h2⟩ := bnd z
              obtain ⟨e2, h3, h4⟩ := mpd h2
              subst h4
              simp only [not_or, Bool.not_eq_true, Bool.not_eq_false] at hs
              obtain ⟨hs1, hs2, hs3⟩ := hs
              obtain ⟨es, kk, pt, ht⟩ := isTup_of hs3
              subst ht
              exact si_zip gk hc hr hs1 hs2 (I.e _ _ _ hc h1) (I.e _ _ _ hc h3)
          · cases z
        · obtain ⟨e1, h1, h2⟩ := mpd z
          subst h2
          exact si_of (I.e _ _ _ hc h1)
  · rename_i hk hz
    cases hk
    rcases itp h with ⟨_, z⟩ | ⟨hs, z⟩
    · cases z
    · obtain ⟨e1, h1, h2⟩ := mpd z
      subst h2
      exact ⟨si_of (I.e _ _ _ hc h1), Bool.eq_false_iff.mpr hs⟩
  · cases h
theorem cE_no {o : BoolOp} {p : Pos} : ∀ (n : Nat) (c : Cc), cE n c (.BoolOp o [] p) = none ∧ ∀ a, cE n c (.BoolOp o [a] p) = none
  | 0, _ => ⟨by cases o <;> rfl, fun a => by cases o <;> rfl⟩
  | n + 1, _ => ⟨by cases o <;> rfl, fun a => by cases o <;> rfl⟩
theorem ok_w (I : Ok g gt n) (c : Cc) (op : BoolOp) (r : List Expr) (p : Pos) (i : B) (hc : c.gt = gt) (h : cB (n + 1) c (.BoolOp op r p) = some i) : SW g c (.BoolOp op r p) i := by
  unfold cB at h
  cases op
  all_goals
    match r, h with
    | [], h =>
      dsimp only at h
      rw [(cE_no n c).1] at h
      cases h
    | [a], h =>
      dsimp only at h
      rw [(cE_no n c).2] at h
      cases h
    | [a, b], h =>
      obtain ⟨e1, h1, h2⟩ := bnd h
      obtain ⟨e2, h3, h4⟩ := mpd h2
      subst h4
      first
        | exact sw_and (I.b c _ _ hc h1) (sw_and1 (I.b c _ _ hc h3))
        | exact sw_or (I.b c _ _ hc h1) (sw_or1 (I.b c _ _ hc h3))
    | a :: b :: d :: r, h =>
      obtain ⟨e1, h1, h2⟩ := bnd h
      obtain ⟨e2, h3, h4⟩ := mpd h2
      subst h4
      first
        | exact sw_and (I.b c _ _ hc h1) (I.w c _ _ _ _ hc h3)
        | exact sw_or (I.b c _ _ hc h1) (I.w c _ _ _ _ hc h3)
theorem ok_b (I : Ok g gt n) (c : Cc) (x : Expr) (i : B) (hc : c.gt = gt) (h : cB (n + 1) c x = some i) : SB g c x i := by
  have of_ : ∀ e, plainT e = true → (cE n c e).map B.of = some i → SB g c e i := fun e hp h => by
    obtain ⟨e1, h1, h2⟩ := mpd h
    subst h2
    exact sb_of hp (I.e c _ _ hc h1)
  cases x with
  | BoolOp op r p => exact (ok_w I c op r p i hc h).b
  | UnaryOp o a p =>
    unfold cB at h
    cases o <;> first | exact of_ _ rfl h | skip
    obtain ⟨e1, h1, h2⟩ := mpd h
    subst h2
    exact sb_not (I.b c _ _ hc h1)
  | IfExp a b d p => unfold cB at h; cases h
  | Compare a os bs p =>
    unfold cB at h
    obtain ⟨e1, h1, h2⟩ := mpd h
    subst h2
    exact I.k c _ _ _ _ _ hc h1
  | NamedExpr a b p =>
    unfold cB at h
    obtain ⟨e1, h1, h2⟩ := mpd h
    exfalso
    cases n <;> cases h1
  | _ => unfold cB at h; exact of_ _ rfl h
theorem ok_k (I : Ok g gt n) (c : Cc) (a : Expr) (os : List CmpOp) (bs : List Expr) (p : Pos) (i : E) (hc : c.gt = gt) (h : cE (n + 1) c (.Compare a os bs p) = some i) : SB g c (.Compare a os bs p) (.of i) ∧ SE g c (.Compare a os bs p) i := by
  have gen : ∀ o b, (if isSet b = true then none else (copO o).bind fun o => (cE n c a).bind fun a => (cE n c b).map fun b => E.cmp o a b) = some i → SB g c (.Compare a [o] [b] p) (.of i) ∧ SE g c (.Compare a [o] [b] p) i := fun o b h => by
    rcases itp h with ⟨_, z⟩ | ⟨hs, z⟩
    · cases z
    · obtain ⟨o1, h1, h2⟩ := bnd z
      obtain ⟨e1, h3, h4⟩ := bnd h2
      obtain ⟨e2, h5, h6⟩ := mpd h4
      subst h6
      have hs' := Bool.eq_false_iff.mpr hs
      exact ⟨sb_cmp h1 hs' (I.e c _ _ hc h3) (I.e c _ _ hc h5), se_cmp h1 hs' (I.e c _ _ hc h3) (I.e c _ _ hc h5)⟩
  have gen2 : ∀ o o2 b d, (if isSet d = true then none else (copO o).bind fun o => (copO o2).bind fun p => (cE n c a).bind fun a => (cE n c b).bind fun b => (cE n c d).map fun d => E.chn o p a b d) = some i → SB g c (.Compare a [o, o2] [b, d] p) (.of i) ∧ SE g c (.Compare a [o, o2] [b, d] p) i := fun o o2 b d h => by
    rcases itp h with ⟨_, z⟩ | ⟨hs, z⟩
    · cases z
    · obtain ⟨o1, h1, h2⟩ := bnd z
      obtain ⟨o2, h1', h2'⟩ := bnd h2
      obtain ⟨e1, h3, h4⟩ := bnd h2'
      obtain ⟨e2, h5, h6⟩ := bnd h4
      obtain ⟨e3, h7, h8⟩ := mpd h6
      subst h8
      have hs' := Bool.eq_false_iff.mpr hs
      exact ⟨sb_chn h1 h1' hs' (I.e c _ _ hc h3) (I.e c _ _ hc h5) (I.e c _ _ hc h7), se_chn h1 h1' hs' (I.e c _ _ hc h3) (I.e c _ _ hc h5) (I.e c _ _ hc h7)⟩
  unfold cE at h
  match os, bs, h with
  | [], bs, h => cases h
  | [o], [], h => cases o <;> cases h
  | [o], b :: b2 :: bs, h => cases o <;> first | (cases h; done) | (cases b <;> first | (cases h; done) | (rename_i v _ _; cases v <;> cases h))
  | o :: o2 :: o3 :: os, bs, h => cases o <;> cases h
  | [o, o2], [], h => cases o <;> cases h
  | [o, o2], [b], h => cases o <;> cases h
  | [o, o2], b :: b2 :: b3 :: bs, h => cases o <;> cases h
  | [o, o2], [b, d], h => cases o <;> exact gen2 _ _ _ _ h
  | [o], [b], h =>
    cases o with
    | Is =>
      cases b with
      | Constant v j q =>
        cases v with
        | none =>
          obtain ⟨e1, h1, h2⟩ := mpd h
          subst h2
          exact ⟨sb_isn (I.e c _ _ hc h1), se_isn (I.e c _ _ hc h1)⟩
        | _ => exact gen _ _ h
      | _ => exact gen _ _ h
    | IsNot =>
      cases b with
      | Constant v j q =>
        cases v with
        | none =>
          obtain ⟨e1, h1, h2⟩ := mpd h
          subst h2
          exact ⟨sb_notn (I.e c _ _ hc h1), se_notn (I.e c _ _ hc h1)⟩
        | _ => exact gen _ _ h
      | _ => exact gen _ _ h
    | _ => exact gen _ _ h
theorem ok_lc (gk : GOk g gt) (I : Ok g gt n) (c : Cc) (elt tg it : Expr) (ifs : List Expr) (scope : Scope) (pos : Pos) (i : E) (hc : c.gt = gt) (h : ((cI n c tg it).bind fun it => (cTg (inner c scope) n tg).bind fun tg =>
      if L2.blkC c.N c.sc scope (ownOf c scope) = true ∧ (slots tg).all (fun i => ((ownOf c scope).map (·.2)).contains i) = true then
        (match ifs with
          | [] => (cE n (inner c scope) elt).map fun elt => E.lc ((ownOf c scope).map (·.2)) tg it .yes elt
          | [t] => (cB n (inner c scope) t).bind fun t => (cE n (inner c scope) elt).map fun elt => .lc ((ownOf c scope).map (·.2)) tg it t elt
          | _ => none)
      else none) = some i) : SA g c (.ListComp elt [⟨tg, it, ifs, 0⟩] scope pos) i ∧ SE g c (.ListComp elt [⟨tg, it, ifs, 0⟩] scope pos) i := by
  obtain ⟨i1, h1, h2⟩ := bnd h
  obtain ⟨t1, h3, h4⟩ := bnd h2
  obtain ⟨si, hset⟩ := I.i c _ _ _ hc h1
  obtain ⟨stg, _⟩ := (tg_ok (g := g) n).1 _ _ h3
  rcases itp h4 with ⟨⟨hb, hs⟩, z⟩ | ⟨_, z⟩
  · have hsl : ∀ m, m ∈ slots t1 → m ∈ (ownOf c scope).map (·.2) := fun m hm => by
      rw [List.all_eq_true] at hs
      simpa using hs m hm
    match ifs, z with
    | [], z =>
      obtain ⟨e1, h5, h6⟩ := mpd z
      subst h6
      exact ⟨sa_lc si hset hb stg hsl sts_nil (I.e (inner c scope) _ _ hc h5), se_lc si hset hb stg hsl sts_nil (I.e (inner c scope) _ _ hc h5)⟩
    | [t], z =>
      obtain ⟨b1, h5, h6⟩ := bnd z
      obtain ⟨e1, h7, h8⟩ := mpd h6
      subst h8
      exact ⟨sa_lc si hset hb stg hsl (sts_one (I.b (inner c scope) _ _ hc h5)) (I.e (inner c scope) _ _ hc h7), se_lc si hset hb stg hsl (sts_one (I.b (inner c scope) _ _ hc h5)) (I.e (inner c scope) _ _ hc h7)⟩
  · cases z
theorem ok_ga (gk : GOk g gt) (I : Ok g gt n) (c : Cc) (f : Str) (elt tg it : Expr) (ifs : List Expr) (scope : Scope) (p gpos pos : Pos) (i : E) (hc : c.gt = gt) (h : (if (isBlt c f "all" || isBlt c f "any") = true then (if gscB c scope = true ∧ c.gl = 2 ∧ (isSet it || isLst it) = false then
        (cI n c tg it).bind fun it => (cTg (innerG c scope) n tg).bind fun tg => if (slots tg).all (fun i => !(capsOf c scope).contains i) = true then
          (match ifs with
            | [] => (cE n (innerG c scope) elt).map fun elt => E.ga (f == "all") (capsOf c scope) tg it .yes elt
            | [t] => (cB n (innerG c scope) t).bind fun t => (cE n (innerG c scope) elt).map fun elt => .ga (f == "all") (capsOf c scope) tg it t elt
            | _ => none)
          else none
        else none)
      else none) = some i) : SE g c (.Call (.Name f p) [.GeneratorExp elt [⟨tg, it, ifs, 0⟩] scope gpos] [] pos) i := by
  rcases itp h with ⟨hf, z⟩ | ⟨_, z⟩
  · rcases itp z with ⟨⟨hS, hgl, hit⟩, z⟩ | ⟨_, z⟩
    · obtain ⟨i1, h1, h2⟩ := bnd z
      obtain ⟨t1, h3, h4⟩ := bnd h2
      obtain ⟨si, _⟩ := I.i c _ _ _ hc h1
      obtain ⟨stg, _⟩ := (tg_ok (g := g) n).1 _ _ h3
      rcases itp h4 with ⟨hs, z⟩ | ⟨_, z⟩
      · have hsl : ∀ m, m ∈ slots t1 → m ∉ capsOf c scope := fun m hm => by
          rw [List.all_eq_true] at hs
          simpa using hs m hm
        match ifs, z with
        | [], z =>
          obtain ⟨e1, h5, h6⟩ := mpd z
          subst h6
          exact se_ga gk hc hf hS hgl hit si stg hsl sts_nil (I.e (innerG c scope) _ _ hc h5)
        | [t], z =>
          obtain ⟨b1, h5, h6⟩ := bnd z
          obtain ⟨e1, h7, h8⟩ := mpd h6
          subst h8
          exact se_ga gk hc hf hS hgl hit si stg hsl (sts_one (I.b (innerG c scope) _ _ hc h5)) (I.e (innerG c scope) _ _ hc h7)
      · cases z
    · cases z
  · cases z

theorem ok_call (gk : GOk g gt) (I : Ok g gt n) (c : Cc) (f : Expr) (as : List Expr) (ks : List Keyword) (p : Pos) (i : E) (hc : c.gt = gt) (h : cE (n + 1) c (.Call f as ks p) = some i) : SE g c (.Call f as ks p) i := by
  unfold cE at h
  split at h
  all_goals injections
  all_goals subst_vars
  · exact ok_ga gk I _ _ _ _ _ _ _ _ _ _ _ rfl h
  · rcases itp h with ⟨⟨h1, h2⟩, z⟩ | ⟨_, z⟩
    · rcases itp z with ⟨_, z⟩ | ⟨hs, z⟩
      · cases z
      · obtain ⟨e1, h3, h4⟩ := bnd z
        obtain ⟨t1, h5, h6⟩ := mpd h4
        subst h6
        exact se_isi gk rfl h1 h2 h5 (Bool.eq_false_iff.mpr hs) (I.e _ _ _ rfl h3)
    · split at z
      · rename_i ii ar hf
        rcases itp z with ⟨ha, z⟩ | ⟨_, z⟩
        · obtain ⟨e1, h3, h4⟩ := mpd z
          subst h4
          exact es_call gk rfl hf (by rw [ha]; rfl) (I.es _ _ _ rfl h3)
        · cases z
      · cases z
  · rcases itp h with ⟨⟨h1, h2, h3, _⟩, z⟩ | ⟨_, z⟩
    · obtain ⟨e1, h4, h5⟩ := mpd z
      subst h5
      exact se_itm gk rfl h1 h2 h3 (I.e _ _ _ rfl h4)
    · cases z
  · split at h
    · rename_i ii ar hf
      rcases itp h with ⟨ha, z⟩ | ⟨_, z⟩
      · obtain ⟨e1, h3, h4⟩ := mpd z
        subst h4
        exact es_call gk rfl hf ha (I.es _ _ _ rfl h3)
      · cases z
    · rename_i hf
      split at h
      · rcases itp h with ⟨_, z⟩ | ⟨hs, z⟩
        · cases z
        rcases itp z with ⟨hq, z⟩ | ⟨_, z⟩
        · obtain ⟨e1, h3, h4⟩ := mpd z
          subst h4
          subst hq
          exact se_srt gk rfl hf (Bool.eq_false_iff.mpr hs) (I.e _ _ _ rfl h3)
        rcases itp z with ⟨hq, z⟩ | ⟨_, z⟩
        · obtain ⟨e1, h3, h4⟩ := mpd z
          subst h4
          subst hq
          exact se_dct gk rfl hf (Bool.eq_false_iff.mpr hs) (I.e _ _ _ rfl h3)
        rcases itp z with ⟨hq, z⟩ | ⟨_, z⟩
        · obtain ⟨e1, h3, h4⟩ := mpd z
          subst h4
          subst hq
          exact se_sti gk rfl hf (Bool.eq_false_iff.mpr hs) (I.e _ _ _ rfl h3)
        · obtain ⟨f1, h1, h2⟩ := bnd z
          obtain ⟨e1, h3, h4⟩ := mpd h2
          subst h4
          have hs' := Bool.eq_false_iff.mpr hs
          split
          · rename_i hz
            simp only [Bool.and_eq_true, beq_iff_eq] at hz
            rw [hz.2] at h1
            exact se_rlist gk rfl hf h1 hs' (I.e _ _ _ rfl h3)
          · split
            · rename_i hz
              simp only [Bool.and_eq_true, beq_iff_eq] at hz
              rw [hz.1] at h1
              exact se_tpl gk rfl hf h1 hs' (I.e _ _ _ rfl h3)
            · exact se_bi gk rfl hf h1 hs' (I.e _ _ _ rfl h3)
      · split at h
        · rename_i t u ht
          rcases itp h with ⟨⟨hq, hs⟩, z⟩ | ⟨_, z⟩
          · obtain ⟨e1, h3, h4⟩ := mpd z
            subst h4
            subst hq
            exact se_isu2 gk rfl hf ht hs (I.e _ _ _ rfl h3)
          · cases z
        · cases h
      · cases h
    · cases h
  · split at h
    · split at h
      · rename_i ii hk
        rcases itp h with ⟨hs, z⟩ | ⟨_, z⟩
        · obtain ⟨e1, h3, h4⟩ := mpd z
          subst h4
          exact se_srk2 gk rfl hk hs (I.e _ _ _ rfl h3)
        · cases z
      · cases h
    · cases h
  · rcases itp h with ⟨⟨h1, h2, h3⟩, z⟩ | ⟨_, z⟩
    · obtain ⟨e1, h4, h5⟩ := bnd z
      obtain ⟨e2, h6, h7⟩ := bnd h5
      obtain ⟨e3, h8, h9⟩ := mpd h7
      subst h9
      simp only [Bool.or_eq_false_iff] at h2
      exact se_get2 h3 h1 h2.1 h2.2 (I.e _ _ _ rfl h4) (I.e _ _ _ rfl h6) (I.e _ _ _ rfl h8)
    · cases z
  · rcases itp h with ⟨⟨h1, h2⟩, z⟩ | ⟨_, z⟩
    · obtain ⟨e1, h4, h5⟩ := mpd z
      subst h5
      exact se_pop0 h2 h1 (I.e _ _ _ rfl h4)
    · cases z
  · rcases itp h with ⟨⟨h1, h2⟩, z⟩ | ⟨_, z⟩
    · obtain ⟨e1, h4, h5⟩ := mpd z
      subst h5
      exact se_popl h2 h1 (I.e _ _ _ rfl h4)
    · cases z
theorem isRev_of {lo hi : Option Expr} {st : Expr} (h : isRev lo hi (some st) = true) : ∃ k p1 p2, lo = none ∧ hi = none ∧ st = .UnaryOp .USub (.Constant (.int 1) k p1) p2 := by
  unfold isRev at h
  split at h
  · rename_i hz
    cases hz
    exact ⟨_, _, _, rfl, rfl, rfl⟩
  · cases h
theorem ok_e (gk : GOk g gt) (I : Ok g gt n) (c : Cc) (x : Expr) (i : E) (hc : c.gt = gt) (h : cE (n + 1) c x = some i) : SE g c x i := by
  cases x with
  | Call f as ks p => exact ok_call gk I c f as ks p i hc h
  | Compare a os bs p => exact (ok_k I c a os bs p i hc h).2
  | Constant v j p =>
    unfold cE at h
    cases v <;> first | (cases h; done) | skip
    all_goals cases h
    · exact se_none
    · exact se_bl
    · exact se_int
    · exact se_str
  | Name x p =>
    unfold cE at h
    split at h
    · rename_i hz
      cases h
      exact se_v hz
    · split at h
      · rename_i hz
        cases h
        exact se_cst gk hc hz
      · cases h
  | Tuple es k p =>
    unfold cE at h
    obtain ⟨e1, h1, h2⟩ := mpd h
    subst h2
    exact se_tup (I.es _ _ _ hc h1).1
  | List es p =>
    unfold cE at h
    obtain ⟨e1, h1, h2⟩ := mpd h
    subst h2
    split
    · exact se_rls (I.es _ _ _ hc h1).1
    · exact se_lst (I.es _ _ _ hc h1).1
  | UnaryOp o a p =>
    unfold cE at h
    cases o <;> first | (cases h; done) | skip
    all_goals
      obtain ⟨e1, h1, h2⟩ := mpd h
      subst h2
      first
        | exact se_neg (I.e _ _ _ hc h1)
        | exact se_not (I.e _ _ _ hc h1)
  | BinOp a o b p =>
    unfold cE at h
    obtain ⟨o1, h1, h2⟩ := bnd h
    obtain ⟨e1, h3, h4⟩ := bnd h2
    obtain ⟨e2, h5, h6⟩ := mpd h4
    subst h6
    split
    · rename_i hz
      simp only [Bool.and_eq_true, beq_iff_eq] at hz
      rw [hz.2] at h1
      cases o <;> first | (cases h1; done) | exact se_rcat (I.e _ _ _ hc h3) (I.e _ _ _ hc h5)
    · exact se_bin h1 (I.e _ _ _ hc h3) (I.e _ _ _ hc h5)
  | BoolOp o r p =>
    unfold cE at h
    cases o
    all_goals
      match r, h with
      | [], h => cases h
      | [a], h => cases h
      | [a, b], h =>
        obtain ⟨e1, h1, h2⟩ := bnd h
        obtain ⟨e2, h3, h4⟩ := mpd h2
        subst h4
        first
          | exact se_and (I.e c _ _ hc h1) (se_one (I.e c _ _ hc h3))
          | exact se_or (I.e c _ _ hc h1) (se_one (I.e c _ _ hc h3))
      | a :: b :: d :: r, h =>
        obtain ⟨e1, h1, h2⟩ := bnd h
        obtain ⟨e2, h3, h4⟩ := mpd h2
        subst h4
        first
          | exact se_and (I.e c _ _ hc h1) (I.e c _ _ hc h3)
          | exact se_or (I.e c _ _ hc h1) (I.e c _ _ hc h3)
  | IfExp t a b p =>
    unfold cE at h
    obtain ⟨o1, h1, h2⟩ := bnd h
    obtain ⟨e1, h3, h4⟩ := bnd h2
    obtain ⟨e2, h5, h6⟩ := mpd h4
    subst h6
    exact se_ife (I.b _ _ _ hc h1) (I.e _ _ _ hc h3) (I.e _ _ _ hc h5)
  | Subscript a b p =>
    unfold cE at h
    have gen : isSlice b = false → (cE n c a).bind (fun a => (cE n c b).map fun b => E.ix a b) = some i → SE g c (.Subscript a b p) i := fun hs z => by
      obtain ⟨e1, h3, h4⟩ := bnd z
      obtain ⟨e2, h5, h6⟩ := mpd h4
      subst h6
      exact se_ix hs (I.e _ _ _ hc h3) (I.e _ _ _ hc h5)
    cases b with
    | Slice lo hi st q =>
      cases st with
      | none =>
        obtain ⟨o1, h1, h2⟩ := bnd h
        obtain ⟨e1, h3, h4⟩ := bnd h2
        obtain ⟨e2, h5, h6⟩ := mpd h4
        subst h6
        exact se_sl (I.e _ _ _ hc h1) (I.o _ _ _ hc h3) (I.o _ _ _ hc h5)
      | some st =>
        rcases itp h with ⟨hs, z⟩ | ⟨_, z⟩
        · obtain ⟨e1, h3, h4⟩ := mpd z
          subst h4
          obtain ⟨k, p1, p2, rfl, rfl, rfl⟩ := isRev_of hs
          exact se_rev (I.e _ _ _ hc h3)
        · cases z
    | _ =>
      rcases itp h with ⟨_, z⟩ | ⟨hs, z⟩
      · cases z
      · exact gen rfl z
  | Dict ks vs p =>
    unfold cE at h
    split at h
    all_goals injections
    all_goals subst_vars
    · exact se_rdc
    rcases itp h with ⟨⟨h1, h2, h3, h4⟩, z⟩ | ⟨_, z⟩
    · obtain ⟨e1, h5, h6⟩ := mpd z
      subst h6
      exact se_dsp h1 h2 (by intro e; rw [e] at h3; cases h3) h4 (I.ps _ _ _ _ rfl h5)
    · cases z
  | ListComp elt gs scope p =>
    unfold cE at h
    split at h
    all_goals injections
    all_goals subst_vars
    exact (ok_lc gk I _ _ _ _ _ _ _ _ rfl h).2
  | _ => unfold cE at h; cases h
theorem ok_sa (gk : GOk g gt) (I : Ok g gt n) (c : Cc) (x : Expr) (i : E) (hc : c.gt = gt) (hcp : isComp x = false) (h : cE (n + 1) c x = some i) : SA g c x i := by
  cases hl : isLc x with
  | false => exact sa_of hcp hl (ok_e gk I c x i hc h)
  | true =>
    cases x <;> first | (cases hl; done) | skip
    unfold cE at h
    split at h
    all_goals injections
    all_goals subst_vars
    exact (ok_lc gk I _ _ _ _ _ _ _ _ rfl h).1
theorem ok_all (gk : GOk g gt) : ∀ n, Ok g gt n
  | 0 => by
    refine ⟨fun c x i _ h => ?_, fun c x i _ h => ?_, fun c x y i _ h => ?_, fun c x i _ h => ?_, fun c x i _ h => ?_, fun c op r p i _ h => ?_, fun c a os bs p i _ h => ?_, fun c tg x i _ h => ?_⟩
    · unfold cE at h; cases h
    · unfold cEs at h; cases h
    · unfold cPs at h; cases h
    · unfold cO at h; cases h
    · unfold cB at h; cases h
    · unfold cB at h; cases h
    · unfold cE at h; cases h
    · unfold cI at h; cases h
  | n + 1 => by
    have I := ok_all gk n
    exact ⟨ok_e gk I, ok_es I, ok_ps I, ok_o I, ok_b I, ok_w I, fun c a os bs p i hc h => (ok_k I c a os bs p i hc h).1, ok_i gk I⟩
end
end Ev


set_option Elab.async false
set_option linter.all false
set_option maxRecDepth 100000
set_option maxHeartbeats 4000000
/-! EvO: statements from the syntax; a def's promise. -/
namespace Ev
open PySem
open L2 (V Hp HO Cx upd TE VK TS Ends XK Sp FnOk Binds Room CX0 E0 Fun FnScope start cxOf)
section
variable {g : Gd} {gt : List (Str × Gv)} {c : Cc}
theorem tg_tup : ∀ {n : Nat} {ts : List Expr} {k : Nat} {p : Pos} {tg : Tg}, cTg c n (.Tuple ts k p) = some tg → ∃ us, tg = .tp us
  | 0, _, _, _, _, h => by unfold cTg at h; cases h
  | n + 1, _, _, _, _, h => by
    unfold cTg at h
    obtain ⟨us, _, h6⟩ := mpd h
    exact ⟨us, h6.symm⟩
theorem ok_t (gk : GOk g gt) (c : Cc) (hc : c.gt = gt) : ∀ n, (∀ (st : Stmt) (t : T), cT n c st = some t → SS g c st t) ∧ (∀ (st : List Stmt) (t : Ts), cTs n c st = some t → SSs g c st t)
  | 0 => by
    refine ⟨fun st t h => ?_, fun st t h => ?_⟩
    · unfold cT at h; cases h
    · unfold cTs at h; cases h
  | n + 1 => by
    obtain ⟨T1, T2⟩ := ok_t gk c hc n
    have I := ok_all gk n
    have sa : ∀ {x i} (c' : Cc), c'.gt = gt → isComp x = false → cE n c' x = some i → SA g c' x i := fun {x i} c' hc' hp h => by
      cases n with
      | zero => unfold cE at h; cases h
      | succ m => exact ok_sa gk (ok_all gk m) c' x i hc' hp h
    refine ⟨fun st t h => ?_, fun st t h => ?_⟩
    · unfold cT at h
      split at h
      all_goals injections
      all_goals subst_vars
      · rcases itp h with ⟨_, z⟩ | ⟨hp, z⟩
        · cases z
        · obtain ⟨i1, h1, h2⟩ := bnd z
          obtain ⟨e1, h3, h4⟩ := mpd h2
          subst h4
          exact ss_set h1 (SA.cR (sa _ (cR_eq _ _).2.2.2.2 (Bool.eq_false_iff.mpr hp) h3))
      · rcases itp h with ⟨hp, z⟩ | ⟨_, z⟩
        · obtain ⟨i1, h1, h2⟩ := bnd z
          obtain ⟨i2, h3, h4⟩ := bnd h2
          obtain ⟨e1, h5, h6⟩ := bnd h4
          obtain ⟨e2, h7, h8⟩ := bnd h6
          rcases itp h8 with ⟨hn, z⟩ | ⟨_, z⟩
          · cases z
            exact ss_par (Bool.and_eq_true_iff.mp hp).1 h1 h3 hn (SE.cR (I.e _ _ _ (cR_eq _ _).2.2.2.2 h5)) (SE.cR (I.e _ _ _ (cR_eq _ _).2.2.2.2 h7))
          · cases z
        rcases itp z with ⟨hp, z⟩ | ⟨_, z⟩
        · obtain ⟨i1, h1, h2⟩ := bnd z
          obtain ⟨i2, h3, h4⟩ := bnd h2
          obtain ⟨e1, h5, h6⟩ := bnd h4
          obtain ⟨e2, h7, h8⟩ := bnd h6
          rcases itp h8 with ⟨hn, z⟩ | ⟨_, z⟩
          · cases z
            simp only [Bool.and_eq_true, Bool.not_eq_true'] at hp
            exact ss_parC hp.1 hp.2 h1 h3 (SE.cR (I.e _ _ _ (cR_eq _ _).2.2.2.2 h5)) (SE.cR (I.e _ _ _ (cR_eq _ _).2.2.2.2 h7))
          · cases z
        · cases z
      · rcases itp h with ⟨hp, z⟩ | ⟨_, z⟩
        · obtain ⟨i1, h1, h2⟩ := bnd z
          obtain ⟨i2, h3, h4⟩ := bnd h2
          obtain ⟨i3, h3', h4'⟩ := bnd h4
          obtain ⟨e1, h5, h6⟩ := bnd h4'
          obtain ⟨e2, h7, h8⟩ := bnd h6
          obtain ⟨e3, h9, h10⟩ := bnd h8
          simp only [Bool.and_eq_true, beq_iff_eq] at hp
          rcases itp h10 with ⟨hn, z⟩ | ⟨_, z⟩
          · cases z
            exact ss_par3 hp.1 hp.2 h1 h3 h3' hn (SE.cR (I.e _ _ _ (cR_eq _ _).2.2.2.2 h5)) (SE.cR (I.e _ _ _ (cR_eq _ _).2.2.2.2 h7)) (SE.cR (I.e _ _ _ (cR_eq _ _).2.2.2.2 h9))
          · cases z
        · cases z
      · rcases itp h with ⟨_, z⟩ | ⟨hp, z⟩
        · cases z
        · obtain ⟨i1, h1, h2⟩ := bnd z
          obtain ⟨e1, h3, h4⟩ := mpd h2
          subst h4
          simp only [Bool.or_eq_true, not_or, Bool.not_eq_true] at hp
          have hg := ((tg_ok (g := g) _).1 _ _ h1).1
          exact ss_asg hp.1 hp.2 hg (tg_tup h1) (I.e _ _ _ rfl h3)
      · rcases itp h with ⟨_, z⟩ | ⟨hp, z⟩
        · cases z
        · obtain ⟨i1, h1, h2⟩ := bnd z
          obtain ⟨i2, h3, h4⟩ := bnd h2
          obtain ⟨e1, h5, h6⟩ := mpd h4
          subst h6
          simp only [Bool.or_eq_true, not_or, Bool.not_eq_true] at hp
          exact ss_setix hp.1 hp.2 (I.e _ _ _ rfl h1) (I.e _ _ _ rfl h3) (I.e _ _ _ rfl h5)
      · obtain ⟨i1, h1, h2⟩ := bnd h
        obtain ⟨i2, h3, h4⟩ := bnd h2
        obtain ⟨e1, h5, h6⟩ := mpd h4
        subst h6
        exact ss_aug h1 h3 (I.e _ _ _ rfl h5)
      · rcases itp h with ⟨⟨hl, hs⟩, z⟩ | ⟨_, z⟩
        · rcases itp z with ⟨hm, z⟩ | ⟨_, z⟩
          · obtain ⟨i1, h1, h2⟩ := bnd z
            obtain ⟨e1, h3, h4⟩ := mpd h2
            subst h4
            subst hm
            exact ss_app h1 hl hs (I.e _ _ _ rfl h3)
          · rcases itp z with ⟨hm, z⟩ | ⟨_, z⟩
            · obtain ⟨i1, h1, h2⟩ := bnd z
              obtain ⟨e1, h3, h4⟩ := mpd h2
              subst h4
              subst hm
              exact ss_ext h1 hl hs (I.e _ _ _ rfl h3)
            · cases z
        · cases z
      · obtain ⟨e1, h3, h4⟩ := mpd h
        subst h4
        exact ss_ex (fun _ _ _ => rfl) (I.e _ _ _ rfl h3)
      · split at h
        · rename_i hz
          cases h
          exact ss_rtv hz
        · obtain ⟨e1, h3, h4⟩ := mpd h
          subst h4
          exact ss_ret (I.e _ _ _ rfl h3)
      · obtain ⟨e1, h3, h4⟩ := mpd h
        subst h4
        exact ss_ret (I.e _ _ _ rfl h3)
      · exact ss_retn
      · exact ss_pass
      · exact ss_brk
      · exact ss_cnt
      · obtain ⟨i1, h1, h2⟩ := bnd h
        obtain ⟨i2, h3, h4⟩ := bnd h2
        obtain ⟨e1, h5, h6⟩ := mpd h4
        subst h6
        exact ss_if (I.b _ _ _ rfl h1) (T2 _ _ h3) (T2 _ _ h5)
      · obtain ⟨i1, h1, h2⟩ := bnd h
        obtain ⟨i2, h3, h4⟩ := bnd h2
        obtain ⟨e1, h5, h6⟩ := mpd h4
        subst h6
        obtain ⟨k1, k2⟩ := I.i _ _ _ _ rfl h1
        exact ss_fr k1 k2 ((tg_ok (g := g) _).1 _ _ h3).1 (T2 _ _ h5)
      · obtain ⟨i1, h1, h2⟩ := bnd h
        obtain ⟨e1, h5, h6⟩ := mpd h2
        subst h6
        exact ss_wh (I.b _ _ _ rfl h1) (T2 _ _ h5)
    · unfold cTs at h
      split at h
      all_goals injections
      all_goals subst_vars
      · exact sss_nil
      · obtain ⟨i1, h1, h2⟩ := bnd h
        obtain ⟨e1, h5, h6⟩ := mpd h2
        subst h6
        exact sss_cons (T1 _ _ h1) (T2 _ _ h5)
end
end Ev


set_option Elab.async false
set_option linter.all false
set_option maxRecDepth 100000
set_option maxHeartbeats 2000000
/-! EvP: a def's promise; all defs. -/
namespace Ev
open PySem
open L2 (V Hp HO Cx upd TE VK TS Ends XK Sp FnOk Binds Room CX0 E0 FnScope start cxOf)
theorem fnScope_of {N ps : List Str} {sc : Scope} (h : scopeB N ps sc = true) : FnScope N ps sc := by
  unfold scopeB at h
  simp only [Bool.and_eq_true, Bool.not_eq_true', decide_eq_true_eq, List.all_eq_true] at h
  obtain ⟨⟨⟨⟨⟨⟨h1, h2⟩, h3⟩, h4⟩, h5⟩, h6⟩, h7⟩ := h
  refine ⟨?_, h2, h3, h4, h5, fun x hx => ?_, fun y hy e => ?_⟩
  · revert h1
    cases sc.kind <;> simp
  · have := h6 x hx
    split at this
    · exact .inl (by assumption)
    · exact .inr (by assumption)
    · cases this
  · have := h7 y hy
    rw [e] at this
    cases this
section
variable {K : PySem.W.Frag} {Tb : Addr → Prop} {ρ ρ' : List Addr} {F F' : Addr → Prop} {H H' : Hp}
theorem exE_of {σ : L2.St} {s : S} {p : Addr → Prop} (x : ExS ρ F H ρ' F' H') (r : Rl K Tb ⟨ρ, F, H, p⟩ σ ρ' F' H' s) : ExE ρ F H ρ' F' H' := ⟨x.pre, x.fz, r.old, r.oldT, r.rn⟩
theorem repC_of {σ : L2.St} {s : S} {p : Addr → Prop} {rv : Rv} {v : V} (h : RepR K ⟨ρ, F, H, p⟩ σ ρ' F' H' s rv v) : RepC K H ρ' F' H' rv v := by
  cases rv with
  | un => exact h
  | val d => exact h
  | mls l =>
    obtain ⟨a, vs, rfl, o, _⟩ := h
    exact ⟨a, vs, rfl, o.at_, o.reps, o.nf, o.nr, o.new⟩
theorem start_rl {N : List Str} {ds : List D} {vs : List V} {M : Mem} (hl : vs.length ≤ N.length) (p : Reps K ρ F H ds vs) (m : MemOk K Tb ρ F H M) :
    Rl K Tb ⟨ρ, F, H, fun _ => False⟩ (start N vs) ρ F H ⟨ds.map Rv.val ++ List.replicate (N.length - ds.length) .un, M⟩ := by
  obtain ⟨m1, m2, m3, m4, m5, m6⟩ := m
  have hlen := p.length
  have get : ∀ {i : Nat} {x : Rv}, (ds.map Rv.val ++ List.replicate (N.length - ds.length) Rv.un)[i]? = some x → x = .un ∨ ∃ d, ds[i]? = some d ∧ x = .val d := fun {i x} h => by
    by_cases k : i < ds.length
    · rw [List.getElem?_append_left (by simpa using k), List.getElem?_map] at h
      cases e : ds[i]? with
      | none => rw [e] at h; cases h
      | some d => rw [e] at h; exact .inr ⟨d, rfl, (Option.some.inj h).symm⟩
    · rw [List.getElem?_append_right (by simpa using k), List.getElem?_replicate] at h
      split at h
      · exact .inl (Option.some.inj h).symm
      · cases h
  refine ⟨?_, fun i d h => ?_, fun i l h => ?_, fun i j l l' a h => ?_, m1, m2, m3, fun a h => ⟨m4 a h, id⟩, fun a h => .inl h, m5, fun a h => .inl h, fun a o h _ _ => h, fun a o h t => ⟨o, h, t⟩, fun a h => h.elim, fun a h => h, m6⟩
  · show _ = (start N vs).length
    unfold L2.start
    simp only [List.length_append, List.length_map, List.length_replicate, hlen]
  · rcases get h with z | ⟨d', e, z⟩
    · cases z
    · cases z
      obtain ⟨v, hv, pv⟩ := Reps.get p e
      refine ⟨v, ?_, pv⟩
      unfold L2.start
      rw [List.getElem?_append_left (by simpa using (List.getElem?_eq_some_iff.mp hv).1), List.getElem?_map, hv]
      rfl
  · rcases get h with z | ⟨d', e, z⟩ <;> cases z
  · rcases get h with z | ⟨d', e, z⟩ <;> cases z
mutual
/-- what names no number from n on needs no more -/
theorem Rep.cut {n : Nat} (hp : ∀ m, m < n → ρ'[m]? = ρ[m]?) : ∀ (d : D) (v : V), rfB n d = true → Rep K ρ' F H d v → Rep K ρ F H d v
  | .non, _, _, h => by simpa only [Rep] using h
  | .bl _, _, _, h => by simpa only [Rep] using h
  | .int _, _, _, h => by simpa only [Rep] using h
  | .str _, _, _, h => by simpa only [Rep] using h
  | .tup l, _, k, h => by
    simp only [Rep] at h ⊢
    obtain ⟨a, vs, e, s, r⟩ := h
    exact ⟨a, vs, e, s, Reps.cut hp l vs k r⟩
  | .lst l, _, k, h => by
    simp only [Rep] at h ⊢
    obtain ⟨a, vs, e, s, r⟩ := h
    exact ⟨a, vs, e, s, Reps.cut hp l vs k r⟩
  | .dic ks l, _, k, h => by
    simp only [Rep] at h ⊢
    obtain ⟨a, kvs, e, f, s, q, r⟩ := h
    exact ⟨a, kvs, e, f, s, q, Reps.cut hp l _ k r⟩
  | .ref m, _, k, h => by
    simp only [Rep] at h ⊢
    obtain ⟨a, e, q⟩ := h
    exact ⟨a, by rw [← hp m (of_decide_eq_true k)]; exact e, q⟩
  | .tpx l, _, k, h => by
    simp only [Rep] at h ⊢
    obtain ⟨a, vs, o, e, s, d, r⟩ := h
    exact ⟨a, vs, o, e, s, d, Reps.cut hp l vs k r⟩
theorem Reps.cut {n : Nat} (hp : ∀ m, m < n → ρ'[m]? = ρ[m]?) : ∀ (ds : List D) (vs : List V), rfBs n ds = true → Reps K ρ' F H ds vs → Reps K ρ F H ds vs
  | [], _, _, h => by simpa only [Reps] using h
  | d :: ds, _, k, h => by
    simp only [Reps] at h ⊢
    simp only [rfBs, Bool.and_eq_true] at k
    obtain ⟨v, r, e, h1, h2⟩ := h
    exact ⟨v, r, e, Rep.cut hp d v k.1 h1, Reps.cut hp ds r k.2 h2⟩
end
/-- a result handed back, what nobody has forgotten -/
theorem trim_ok {σ : L2.St} {s : S} {rv : Rv} {v : V} {M : Mem} {Q : VK} (m : MemOk K Tb ρ F H M) (x : ExS ρ F H ρ' F' H') (r : Rl K Tb ⟨ρ, F, H, fun _ => False⟩ σ ρ' F' H' s) (t : RepC K H ρ' F' H' rv v)
    (h : WC K Tb ρ F H Q (.ok (rv, trim M.length rv s.M))) : Q v H' := by
  have e0 : ExE ρ F H ρ' F' H' := exE_of x r
  have full : WC K Tb ρ F H Q (.ok (rv, s.M)) → Q v H' := fun h => h v ρ' F' H' e0 r.fn r.memOk t
  unfold trim at h
  split at h
  · exact full h
  · split at h
    · rename_i hz
      rw [Bool.and_eq_true, List.all_eq_true] at hz
      obtain ⟨m1, m2, m3, m4, m5, m6⟩ := m
      have hp : ∀ k, k < M.length → ρ'[k]? = ρ[k]? := fun k hk => by
        have : ρ[k]? = some ρ[k] := List.getElem?_eq_getElem (by omega)
        rw [this]
        exact x.pre k _ this
      have hl : M.length ≤ s.M.length := by
        rw [← r.ml, ← m2]
        rcases Nat.lt_or_ge ρ'.length ρ.length with z | z
        · exfalso
          have k1 : ρ[ρ'.length]? = some ρ[ρ'.length] := List.getElem?_eq_getElem z
          have k2 := x.pre _ _ k1
          rw [List.getElem?_eq_none (Nat.le_refl _)] at k2
          cases k2
        · exact z
      refine h v ρ F' H' ⟨fun _ _ q => q, x.fz, e0.all, e0.tbl, fun a q => .inl q⟩ r.fn ⟨fun k o q => ?_, ?_, m3, fun a q => (r.rf a (r.bp a q)).1, r.ft, r.tab⟩ ?_
      · have hk : k < M.length := by
          have := (List.getElem?_eq_some_iff.mp q).1
          rw [List.length_take] at this
          omega
        have hq : s.M[k]? = some o := by rw [List.getElem?_take_of_lt hk] at q; exact q
        obtain ⟨a, u, q1, q2, q3⟩ := r.mem k o hq
        refine ⟨a, u, by rw [← hp k hk]; exact q1, q2, ?_⟩
        have hb := hz.2 o (List.mem_of_getElem? q)
        cases o with
        | l xs =>
          obtain ⟨vs, e, w⟩ := q3
          exact ⟨vs, e, Reps.cut hp _ _ hb w⟩
        | d ks xs =>
          obtain ⟨kvs, e, f, w⟩ := q3
          exact ⟨kvs, e, f, Reps.cut hp _ _ hb w⟩
      · rw [List.length_take]; omega
      · cases rv with
        | un => exact t
        | val d => exact Rep.cut hp _ _ hz.1 t
        | mls l =>
          obtain ⟨a, vs, e, k1, k2, k3, k4, k5⟩ := t
          exact ⟨a, vs, e, k1, Reps.cut hp _ _ hz.1 k2, k3, fun q => k4 (r.bp a q), k5⟩
    · exact full h
/-- what the callee has made besides is forgotten, but for a list that is handed back -/
theorem cut_ok {σ : L2.St} {s : S} {M : Mem} {rv : Rv} {v : V} {Q : VK} {p : Addr → Prop} (m : MemOk K Tb ρ F H M) (x : ExS ρ F H ρ' F' H') (r : Rl K Tb ⟨ρ, F, H, p⟩ σ ρ' F' H' s) (hz : (s.M.take M.length).all (moB M.length) = true) (t : RepC K H ρ F' H' rv v)
    (h : WC K Tb ρ F H Q (.ok (rv, s.M.take M.length))) : Q v H' := by
  have e0 : ExE ρ F H ρ' F' H' := exE_of x r
  rw [List.all_eq_true] at hz
  obtain ⟨m1, m2, m3, m4, m5, m6⟩ := m
  have hp : ∀ k, k < M.length → ρ'[k]? = ρ[k]? := fun k hk => by
    have : ρ[k]? = some ρ[k] := List.getElem?_eq_getElem (by omega)
    rw [this]
    exact x.pre k _ this
  have hl : M.length ≤ s.M.length := by
    rw [← r.ml, ← m2]
    rcases Nat.lt_or_ge ρ'.length ρ.length with z | z
    · exfalso
      have k2 := x.pre _ _ (List.getElem?_eq_getElem z)
      rw [List.getElem?_eq_none (Nat.le_refl _)] at k2
      cases k2
    · exact z
  refine h v ρ F' H' ⟨fun _ _ q => q, x.fz, e0.all, e0.tbl, fun a q => .inl q⟩ r.fn ⟨fun k o q => ?_, ?_, m3, fun a q => (r.rf a (r.bp a q)).1, r.ft, r.tab⟩ t
  · have hk : k < M.length := by
      have := (List.getElem?_eq_some_iff.mp q).1
      rw [List.length_take] at this
      omega
    have hq : s.M[k]? = some o := by rw [List.getElem?_take_of_lt hk] at q; exact q
    obtain ⟨a, u, q1, q2, q3⟩ := r.mem k o hq
    refine ⟨a, u, by rw [← hp k hk]; exact q1, q2, ?_⟩
    have hb := hz o (List.mem_of_getElem? q)
    cases o with
    | l xs =>
      obtain ⟨vs, e, w⟩ := q3
      exact ⟨vs, e, Reps.cut hp _ _ hb w⟩
    | d ks xs =>
      obtain ⟨kvs, e, f, w⟩ := q3
      exact ⟨kvs, e, f, Reps.cut hp _ _ hb w⟩
  · rw [List.length_take]; omega
theorem rel_ok {σ : L2.St} {s : S} {M : Mem} {rv : Rv} {v : V} {Q : VK} (m : MemOk K Tb ρ F H M) (x : ExS ρ F H ρ' F' H') (r : Rl K Tb ⟨ρ, F, H, fun _ => False⟩ σ ρ' F' H' s) (t : RepC K H ρ' F' H' rv v)
    (h : WC K Tb ρ F H Q (.ok (relR M.length rv s.M, trim M.length (relR M.length rv s.M) s.M))) : Q v H' := by
  have old : relR M.length rv s.M = rv → Q v H' := fun e => by
    rw [e] at h
    exact trim_ok m x r t h
  cases rv with
  | un => exact old rfl
  | mls l => exact old rfl
  | val d =>
    cases d with
    | ref k =>
      cases q : s.M[k]? with
      | none => exact old (by simp only [relR, q])
      | some o =>
        cases o with
        | d ks vs => exact old (by simp only [relR, q])
        | l xs =>
          by_cases hc : M.length ≤ k ∧ (rfBs M.length xs && (s.M.take M.length).all (moB M.length)) = true
          · have e : relR M.length (.val (.ref k)) s.M = .mls xs := by simp only [relR, q, hc, and_self, if_true]
            rw [e] at h
            obtain ⟨hk, hb⟩ := hc
            rw [Bool.and_eq_true] at hb
            have hlk := (List.getElem?_eq_some_iff.mp q).1
            have e2 : trim M.length (.mls xs) s.M = s.M.take M.length := by
              unfold trim
              rw [if_neg (by omega), if_pos]
              show (rfBs M.length xs && _) = true
              rw [hb.1, hb.2]
              rfl
            rw [e2] at h
            obtain ⟨a, u, q1, q2, vs, rfl, q4⟩ := r.mem k _ q
            have ea : v = .ref a := by
              simp only [RepC, Rep] at t
              obtain ⟨b, t1, t2⟩ := t
              rw [q1] at t1
              rw [t2, Option.some.inj t1]
            have ma : a ∈ ρ' := List.mem_of_getElem? q1
            have m2 := m.2.1
            have na : a ∉ ρ := fun z => by
              obtain ⟨n, hn, en⟩ := List.getElem_of_mem z
              have k1 : ρ'[n]? = some a := x.pre n a (by rw [← en]; exact List.getElem?_eq_getElem hn)
              have := (List.getElem?_inj (List.getElem?_eq_some_iff.mp k1).1 r.nd).mp (k1.trans q1.symm)
              omega
            have hp : ∀ k, k < M.length → ρ'[k]? = ρ[k]? := fun k hk => by
              have : ρ[k]? = some ρ[k] := List.getElem?_eq_getElem (by omega)
              rw [this]
              exact x.pre k _ this
            refine cut_ok m x r hb.2 ?_ h
            exact ⟨a, vs, ea, q2, Reps.cut hp _ _ hb.1 q4, (r.rf a ma).1, na, (r.rn a ma).resolve_left na⟩
          · exact old (by simp only [relR, q, hc, if_false])
    | _ => exact old rfl
/-- a body's end, seen by the caller -/
theorem ws_of_wc {Q : VK} {M : Mem} (m : MemOk K Tb ρ F H M) {r : Res (Out × S)} (h : WC K Tb ρ F H Q (match r with | .ok (.nx, s) => .ok (.val .non, trim M.length (.val .non) s.M) | .ok (.ret r, s) => .ok (relR M.length r s.M, trim M.length (relR M.length r s.M) s.M) | .ok _ => .bad | .exc x => .exc x | .bad => .bad)) :
    WS K Tb ⟨ρ, F, H, fun _ => False⟩ ρ F H { nx := fun _ H' => Q .non H', rt := Q } r := by
  cases r with
  | exc _ => exact h.elim
  | bad => exact h.elim
  | ok p =>
    obtain ⟨o, s⟩ := p
    cases o with
    | brk => exact h.elim
    | cnt => exact h.elim
    | nx => exact fun σ' ρ' F' H' x r => trim_ok m x r (by simp only [RepC, Rep]) h
    | ret rv => exact fun σ' v ρ' F' H' x r t => rel_ok m x r (repC_of t) h
end
theorem def_ok {g : Gd} {gt : List (Str × Gv)} (gk : GOk g gt) {st : Stmt} {N : List Str} {rf : Bool} {rn : List Str} {gl ar i : Nat} {d : Fd} {f : Addr} {qual name : Str} {oc kV doc pm cdv ct : Value} {od an : Option Addr} {osl : Array (Option Value)} {C' : Calls}
    (hd : cDef gt rf gl rn N ar st = some d) (hgl : gl ≤ 2) (lk : g.K.lookup f = some ⟨oc, od, .func (PySem.W.fnOf name qual (L2.defArgs st) (L2.defBody st) (L2.defScope st) .none kV doc pm an cdv ct), osl⟩) (hcd : PySem.W.codeIn g.K cdv qual = true)
    (hT : gl = 2 → ∃ (cd P : Addr), cdv = .ref cd ∧ GxR.TabB g.base g.mg cd P ∧ g.Tb P) (hC : ∀ ds M, C' i ds M = runF g.C g.D d ds M) :
    FnOk g.P g.w g.K g.mg g.base CX0 (g.k + 2) f (PySem.W.fnOf name qual (L2.defArgs st) (L2.defBody st) (L2.defScope st) .none kV doc pm an cdv ct) (N.take ar) (spOf g.K g.Tb C' i ar) := by
  unfold cDef at hd
  dsimp only at hd
  obtain ⟨hz, hd⟩ : _ ∧ _ := (itp hd).resolve_right fun z => by cases z.2
  obtain ⟨body, hb, e⟩ := mpd hd
  subst e
  simp only [Bool.and_eq_true, decide_eq_true_eq] at hz
  obtain ⟨⟨hs, _⟩, hN⟩ := hz
  have S := fnScope_of hs
  have hlp : (N.take ar).length = ar := by rw [List.length_take]; omega
  refine L2.fn_of (k := g.k + 1) lk hcd S (fun vs H Q E h => by rw [hlp]; exact h.1) fun A outer s H vs Q E hr hsp => ?_
  obtain ⟨hlen, ds, ρ, F, M, p, m, w⟩ := hsp
  obtain ⟨t, h1, h2⟩ := (ok_t gk ⟨N, L2.defScope st, fun _ => true, gt, rf, gl, rn⟩ rfl 60).2 _ _ hb
  have hX : XOk g ⟨N, L2.defScope st, fun _ => true, gt, rf, gl, rn⟩ (cxOf CX0 g.P g.w g.K g.mg g.base N qual (L2.defScope st) f cdv A outer s H E).nox :=
    ⟨rfl, rfl, rfl, rfl, rfl, rfl, S.nd, rfl, fun _ _ => rfl, rfl, hr.mono (Nat.add_le_add_left (Nat.min_le_left 1 gl) g.k), fun h0 => by
      obtain ⟨cd, P, e, tb, hp⟩ := hT (by show gl = 2; have : 1 < gl := h0; omega)
      exact ⟨cd, P, e, tb, hp⟩⟩
  refine ⟨t, (h1 _ hX PassesOwn.never).nox, ?_⟩
  rw [hC] at w
  unfold runF at w
  rw [if_pos (by rw [← p.length]; exact hlen)] at w
  exact h2 _ _ _ _ _ _ _ (start_rl (by rw [hlen]; exact hN) p m) (ws_of_wc m w)
/-- a def of the text, as it stands behind the top -/
structure DOk (K : PySem.W.Frag) (Tb : Addr → Prop) (mg : Str → Option Value) (base : Heap) (gt : List (Str × Gv)) (Ps : List Fd) (x : Str) (i ar : Nat) : Prop where
  ex : ∃ (st : Stmt) (N : List Str) (rf : Bool) (gl : Nat) (rn : List Str) (d : Fd) (f : Addr) (qual name : Str) (oc kV doc pm cdv ct : Value) (od an : Option Addr) (osl : Array (Option Value)),
    cDef gt rf gl rn N ar st = some d ∧ Ps[i]? = some d ∧ gl ≤ 2 ∧ mg x = some (.ref f) ∧ PySem.W.keepIn K (.ref f) = true ∧
    K.lookup f = some ⟨oc, od, .func (PySem.W.fnOf name qual (L2.defArgs st) (L2.defBody st) (L2.defScope st) .none kV doc pm an cdv ct), osl⟩ ∧ PySem.W.codeIn K cdv qual = true ∧
    (gl = 2 → ∃ (cd P : Addr), cdv = .ref cd ∧ GxR.TabB base mg cd P ∧ Tb P) ∧ Binds K (PySem.W.fnOf name qual (L2.defArgs st) (L2.defBody st) (L2.defScope st) .none kV doc pm an cdv ct) (N.take ar) []
/-- a def whose promise is given -/
structure VOk (P : Program) (w : World) (K : PySem.W.Frag) (Tb : Addr → Prop) (mg : Str → Option Value) (base : Heap) (D' : Nat → D) (Ps : List Fd) (x : Str) (i ar : Nat) : Prop where
  ex : ∃ (f : Addr) (fd : FuncData) (ps : List Str), mg x = some (.ref f) ∧ PySem.W.keepIn K (.ref f) = true ∧ (∀ n : Nat, FnOk P w K mg base CX0 (2 * n) f fd ps (spOf K Tb (calls Ps D' n) i ar)) ∧ Binds K fd ps [] ∧ ps.length = ar
structure TOk (P : Program) (w : World) (K : PySem.W.Frag) (Tb : Addr → Prop) (mg : Str → Option Value) (base : Heap) (D' : Nat → D) (gt : List (Str × Gv)) (Ps : List Fd) : Prop where
  fn : ∀ x i ar, gt.lookup x = some (.fn i ar) → DOk K Tb mg base gt Ps x i ar ∨ VOk P w K Tb mg base D' Ps x i ar
  cst : ∀ x n, gt.lookup x = some (.cst n) → ∃ v u, mg x = some u ∧ L2.RelV v u ∧ ∀ ρ F H, Rep K ρ F H (D' n) v
  blt : ∀ x, gt.lookup x = some .blt → mg x = none
theorem defs_ok {P : Program} {w : World} {K : PySem.W.Frag} {Tb : Addr → Prop} {mg : Str → Option Value} {base : Heap} {D' : Nat → D} {gt : List (Str × Gv)} {Ps : List Fd} (T : TOk P w K Tb mg base D' gt Ps) : ∀ n : Nat, GOk ⟨P, w, K, Tb, mg, base, 2 * n, calls Ps D' n, D'⟩ gt
  | 0 => ⟨fun x i ar h => by
      rcases T.fn x i ar h with ⟨q⟩ | ⟨f, fd, ps, h1, h2, h3, h4, h5⟩
      case inr => exact ⟨f, fd, ps, h1, h2, h3 _, h4, h5⟩
      obtain ⟨st, N, rf, gl, rn, d, f, qual, name, oc, kV, doc, pm, cdv, ct, od, an, osl, h1, h2, h3, h4, h5, h6, h7, h8, h9⟩ := q
      have hN : (N.take ar).length = ar := by
        unfold cDef at h1
        dsimp only at h1
        rcases itp h1 with ⟨hz, _⟩ | ⟨_, z⟩
        · simp only [Bool.and_eq_true, decide_eq_true_eq] at hz
          rw [List.length_take]; omega
        · cases z
      refine ⟨f, _, _, h4, h5, ⟨fun vs H Q E h => by rw [hN]; exact h.1, fun A outer s H args us vs Q E _ _ _ _ h => ?_⟩, h9, hN⟩
      obtain ⟨_, ds, ρ, F, M, _, _, w⟩ := h
      exact w.elim, T.cst, T.blt⟩
  | n + 1 => ⟨fun x i ar h => by
      rcases T.fn x i ar h with ⟨q⟩ | ⟨f, fd, ps, h1, h2, h3, h4, h5⟩
      case inr => exact ⟨f, fd, ps, h1, h2, h3 _, h4, h5⟩
      obtain ⟨st, N, rf, gl, rn, d, f, qual, name, oc, kV, doc, pm, cdv, ct, od, an, osl, h1, h2, h3, h4, h5, h6, h7, h8, h9⟩ := q
      have hN : (N.take ar).length = ar := by
        unfold cDef at h1
        dsimp only at h1
        rcases itp h1 with ⟨hz, _⟩ | ⟨_, z⟩
        · simp only [Bool.and_eq_true, decide_eq_true_eq] at hz
          rw [List.length_take]; omega
        · cases z
      have key := def_ok (C' := calls Ps D' (n + 1)) (i := i) (defs_ok (P := P) (w := w) T n) h1 h3 h6 h7 h8 (fun ds M => by
        show (match Ps[i]? with | some fd => runF (calls Ps D' n) D' fd ds M | none => .bad) = _
        rw [h2])
      exact ⟨f, _, _, h4, h5, key, h9, hN⟩, T.cst, T.blt⟩
end Ev


set_option Elab.async false
set_option linter.all false
set_option maxRecDepth 100000
set_option maxHeartbeats 2000000
/-! EvQ: the end. -/
namespace Ev
open PySem PySem.Spec PyProof.Rows
open L2 (V Hp HO CXT XK Room)
theorem ints_reps {K : PySem.W.Frag} {ρ : List Addr} {F : Addr → Prop} {H : Hp} : ∀ ks : List Int, Reps K ρ F H (ks.map D.int) (ks.map V.int)
  | [] => by simp only [List.map_nil, Reps]
  | k :: ks => by
    simp only [List.map_cons]
    exact Reps.cons (by simp only [Rep]) (ints_reps ks)
/-- the end, with what the top says at hand -/
theorem walk_g {l : PySem.W.OpenLaw} {n k : Nat} {q : Program} {loose : List Str} {XP : (Str → Option Value) → Heap → Prop} {YP : World → Heap → Prop} {d : DefRec} {K : Params → PySem.W.Frag} {CX : World → CXT} {x : Str}
    (hn : l.most = some n) (hn2 : n ≤ sizeLine) (hdf : d.params.defaults = []) (hr : Room k callerA) (hY : ∀ (w : World) (h : Heap), YP w h → (K w.params).In h)
    (F : ∀ (w : World) (s₀ : Shared) (mg mb : Str → Option Value) (fa : Addr) (h : Heap), PySem.W.Ground q loose [] XP w s₀ mg mb h → YP w h → (K w.params).In h → mg d.name = some (.ref fa) → LamX.LawAtS l w (K w.params) (CX w) k n x mg fa h)
    (hCX : ∀ (w : World) (H : Hp) (s : Shared) (e : Value) (s' : Shared), CX w [] H s (fun _ _ _ => False) e s' → False) :
    PySem.W.WalkO q loose XP YP l.row.toRowW d [] (fun f vs => PySem.call f vs) := by
  refine Att.attach_callB hn hdf fun w s₀ s₁ mg mb fa o pm cd doc a vs ns G Y ho hd hcd hmg hobj hints hlen hbits hg => ?_
  have KX := hY w _ Y
  obtain ⟨fd, cs, sp, hT, nT, C, hb, hsp, hF⟩ := F w s₀ mg mb fa _ G Y KX hmg
  exact LamX.law_callTs KX G.T.g G.T.b G.T.builtins G.T.nolimit hg hT nT C G.T.bmain hobj hints (Nat.le_trans hlen hn2) hr hF hb (fun H hH hS => hsp H a ns hlen hbits hH hS) fun H e s' => hCX w H s₁ e s'
end Ev


set_option Elab.async false
set_option linter.all false
/-! EvZ: a module's constants. -/
namespace Ev
open PySem
/-- a constant as the top has left it -/
def KD (K : PySem.W.Frag) (v : L2.V) (u : Value) (d : D) : Prop := L2.RelV v u ∧ ∀ ρ F H, Rep K ρ F H d v
inductive KDs (K : PySem.W.Frag) : List L2.V → List Value → List D → Prop
  | nil : KDs K [] [] []
  | cons {v : L2.V} {u : Value} {d : D} {vs : List L2.V} {us : List Value} {ds : List D} : KD K v u d → KDs K vs us ds → KDs K (v :: vs) (u :: us) (d :: ds)
section
variable {K : PySem.W.Frag}
theorem kd_int {i : Int} {t : Tok} : KD K (.int i) (.int i t) (.int i) := ⟨⟨_, rfl⟩, fun _ _ _ => by simp only [Rep]⟩
theorem kd_str {x : Str} {t : Tok} : KD K (.str x) (.str x t) (.str x) := ⟨⟨_, rfl⟩, fun _ _ _ => by simp only [Rep]⟩
theorem kd_bl {b : Bool} : KD K (.bl b) (.bool b) (.bl b) := ⟨rfl, fun _ _ _ => by simp only [Rep]⟩
theorem kd_non : KD K .non .none .non := ⟨rfl, fun _ _ _ => by simp only [Rep]⟩
theorem KDs.vals {vs : List L2.V} {us : List Value} {ds : List D} : KDs K vs us ds → L2.Vals vs us
  | .nil => .nil
  | .cons h t => .cons h.1 t.vals
theorem KDs.reps {vs : List L2.V} {us : List Value} {ds : List D} (ρ : List Addr) (F : Addr → Prop) (H : L2.Hp) : KDs K vs us ds → Reps K ρ F H ds vs
  | .nil => Reps.nil
  | .cons h t => Reps.cons (h.2 ρ F H) (t.reps ρ F H)
theorem kd_tup {q : Addr} {d : Option Addr} {us : List Value} {n : Nat} {s : Array (Option Value)} {vs : List L2.V} {l : List D} {m : Nat} (h : K.lookup q = some ⟨.type "tuple", d, .seq us.toArray n, s⟩) (hl : us.length = m) (hz : m ≤ sizeLine) (hs : KDs K vs us l) : KD K (.ref q) (.ref q) (.tup l) :=
  ⟨rfl, fun ρ F H => by
    simp only [Rep]
    exact ⟨q, vs, rfl, .inr ⟨_, us.toArray, n, h, rfl, rfl, by rw [List.size_toArray, hl]; exact hz, hs.vals⟩, hs.reps ρ F H⟩⟩
end
end Ev


set_option Elab.async false
set_option linter.all false
set_option maxRecDepth 100000
set_option maxHeartbeats 4000000
/-! UA: for every law: the evaluator's equations, the box, a digit drawn. -/
namespace Ul
open PySem Ev
section
variable (Ps : List Fd) (D' : Nat → D)
abbrev R (n f : Nat) (ds : List D) (M : Mem) : Res (Rv × Mem) := calls Ps D' n f ds M
end
variable {Ps : List Fd} {D' : Nat → D}
def outT (n : Nat) : Res (Out × S) → Res (Rv × Mem)
  | .ok (.nx, s) => .ok (.val .non, trim n (.val .non) s.M)
  | .ok (.ret r, s) => .ok (relR n r s.M, trim n (relR n r s.M) s.M)
  | .ok _ => .bad
  | .exc x => .exc x
  | .bad => .bad
theorem r_step {n f ar ns : Nat} {b : Ts} {ds : List D} {M : Mem} (h : Ps[f]? = some ⟨ar, ns, b⟩) (hl : ds.length = ar) : R Ps D' (n + 1) f ds M = outT M.length (evSs (calls Ps D' n) D' b ⟨ds.map Rv.val ++ List.replicate (ns - ds.length) .un, M⟩) := by
  show (match Ps[f]? with | some fd => runF (calls Ps D' n) D' fd ds M | none => .bad) = _
  rw [h]
  show runF _ _ _ _ _ = _
  unfold runF
  rw [if_pos hl]
  rfl
theorem trim_le {n : Nat} {r : Rv} {M : Mem} (h : M.length ≤ n) : trim n r M = M := if_pos h
theorem trim2 {a b : MO} {r : Mem} {v : Rv} : trim (r.length + 1 + 1) v (a :: b :: r) = a :: b :: r := if_pos (Nat.le_refl _)
theorem trimM {M : Mem} {v : Rv} : trim M.length v M = M := if_pos (Nat.le_refl _)
theorem out_ret {n : Nat} {r : Rv} {s : S} : outT n (.ok (.ret r, s)) = .ok (relR n r s.M, trim n (relR n r s.M) s.M) := rfl
section
variable {n : Nat} {M : Mem}
theorem rel_bl {b : Bool} : relR n (.val (.bl b)) M = .val (.bl b) := rfl
theorem rel_int {b : Int} : relR n (.val (.int b)) M = .val (.int b) := rfl
theorem rel_str {b : Str} : relR n (.val (.str b)) M = .val (.str b) := rfl
theorem rel_non : relR n (.val .non) M = .val .non := rfl
theorem rel_tup {l : List D} : relR n (.val (.tup l)) M = .val (.tup l) := rfl
theorem rel_tpx {l : List D} : relR n (.val (.tpx l)) M = .val (.tpx l) := rfl
theorem rel_lst {l : List D} : relR n (.val (.lst l)) M = .val (.lst l) := rfl
theorem rel_dic {k : List Key} {l : List D} : relR n (.val (.dic k l)) M = .val (.dic k l) := rfl
theorem rel_mls {l : List D} : relR n (.mls l) M = .mls l := rfl
theorem rel_nr {d : D} (h : ∀ k, d ≠ .ref k) : relR n (.val d) M = .val d := by
  cases d with
  | ref k => exact absurd rfl (h k)
  | _ => rfl
theorem rel_old {k : Nat} (h : k < n) : relR n (.val (.ref k)) M = .val (.ref k) := by
  show (match M[k]? with | some (.l l) => if n ≤ k ∧ _ then Rv.mls l else .val (.ref k) | _ => .val (.ref k)) = _
  split
  · rw [if_neg (fun z => by omega)]
  · rfl
/-- a list made here, handed back -/
theorem rel_new {k : Nat} {l : List D} (h : M[k]? = some (.l l)) (hk : n ≤ k) (hl : rfBs n l = true) (hm : (M.take n).all (moB n) = true) : relR n (.val (.ref k)) M = .mls l := by
  show (match M[k]? with | some (.l l) => if n ≤ k ∧ (rfBs n l && (M.take n).all (moB n)) = true then Rv.mls l else .val (.ref k) | _ => .val (.ref k)) = _
  rw [h]
  show (if _ then _ else _) = _
  rw [if_pos ⟨hk, by rw [hl, hm]; rfl⟩]
end
theorem out_nx {n : Nat} {s : S} : outT n (.ok (.nx, s)) = .ok (.val .non, trim n (.val .non) s.M) := rfl
theorem b2_k {α β : Type} {a : α} {s : S} {f : α → S → Res β} : (Res.ok (a, s)).b2 f = f a s := rfl
theorem bd_k {α β : Type} {a : α} {f : α → Res β} : (Res.ok a).bind f = f a := rfl
theorem op_k {α : Type} {a : α} : opt (some a) = .ok a := rfl
theorem op_n {α : Type} : opt (none : Option α) = .bad := rfl
def rdO : Option Rv → Nat → S → Res (Rv × S)
  | some (.val d), _, s => .ok (.val d, s)
  | some (.mls l), i, s => .ok (.val (.lst l), { s with σ := s.σ.set i (.val (.lst l)) })
  | _, _, _ => .bad
theorem rdV_k {i : Nat} {s : S} : rdV i s = rdO s.σ[i]? i s := by
  unfold rdV
  cases s.σ[i]? with
  | none => rfl
  | some x => cases x <;> rfl
theorem rd_val {d : D} {i : Nat} {s : S} : rdO (some (.val d)) i s = .ok (.val d, s) := rfl
theorem rd_mls {l : List D} {i : Nat} {s : S} : rdO (some (.mls l)) i s = .ok (.val (.lst l), { s with σ := s.σ.set i (.val (.lst l)) }) := rfl
theorem fz_val {d : D} : (Rv.val d).fz = d := rfl
theorem fz_mls {l : List D} : (Rv.mls l).fz = .lst l := rfl
theorem bl_k {b : Bool} : blOf (.val (.bl b)) = .ok b := rfl
/-! what a number stands for -/
def drO : Option MO → Nat → D
  | some (.l l), _ => .lst l
  | some (.d ks vs), _ => .dic ks vs
  | none, n => .ref n
theorem dr_ref {M : Mem} {n : Nat} : drD M (.ref n) = drO M[n]? n := by
  simp only [drD]
  cases M[n]? with
  | none => rfl
  | some o => cases o <;> rfl
theorem drO_l {l : List D} {n : Nat} : drO (some (.l l)) n = .lst l := rfl
theorem drO_d {ks : List Key} {vs : List D} {n : Nat} : drO (some (.d ks vs)) n = .dic ks vs := rfl
theorem dr_int {M : Mem} {i : Int} : drD M (.int i) = .int i := rfl
theorem dr_bl {M : Mem} {i : Bool} : drD M (.bl i) = .bl i := rfl
theorem dr_non {M : Mem} : drD M .non = .non := rfl
theorem dr_str {M : Mem} {x : Str} : drD M (.str x) = .str x := rfl
theorem dr_tup {M : Mem} {l : List D} : drD M (.tup l) = .tup l := rfl
theorem dr_tpx {M : Mem} {l : List D} : drD M (.tpx l) = .tup l := rfl
theorem dr_lst {M : Mem} {l : List D} : drD M (.lst l) = .lst l := rfl
theorem dr_dic {M : Mem} {ks : List Key} {l : List D} : drD M (.dic ks l) = .dic ks l := rfl
theorem tru_bl {b : Bool} : truD (.bl b) = some b := rfl
theorem tru_lst {l : List D} : truD (.lst l) = some (!l.isEmpty) := rfl
theorem tru_tup {l : List D} : truD (.tup l) = some (!l.isEmpty) := rfl
theorem cm_lt {a b : Int} : cmpD .lt (.int a) (.int b) = some (decide (a < b)) := rfl
theorem cm_le {a b : Int} : cmpD .le (.int a) (.int b) = some (decide (a ≤ b)) := rfl
theorem cm_gt {a b : Int} : cmpD .gt (.int a) (.int b) = some (decide (b < a)) := rfl
theorem cm_ge {a b : Int} : cmpD .ge (.int a) (.int b) = some (decide (b ≤ a)) := rfl
theorem cm_eqi {a b : Int} : cmpD .eq (.int a) (.int b) = some (decide (a = b)) := rfl
theorem cm_eqs {a b : Str} : cmpD .eq (.str a) (.str b) = some (decide (a = b)) := rfl
theorem cm_nei {a b : Int} : cmpD .ne (.int a) (.int b) = some (!decide (a = b)) := rfl
theorem cm_nes {a b : Str} : cmpD .ne (.str a) (.str b) = some (!decide (a = b)) := rfl
theorem bn_add {a b : Int} : binD .add (.int a) (.int b) = some (.val (.int (a + b))) := rfl
theorem bn_addt {a b : List D} : binD .add (.tup a) (.tup b) = if a.length + b.length ≤ seqLine then some (.val (.tup (a ++ b))) else none := rfl
theorem bn_addl {a b : List D} : binD .add (.lst a) (.lst b) = if a.length + b.length ≤ seqLine then some (.mls (a ++ b)) else none := rfl
theorem bn_sub {a b : Int} : binD .sub (.int a) (.int b) = some (.val (.int (a - b))) := rfl
theorem bn_mulR {a b : Int} (h : two64 b = true) : binD .mul (.int a) (.int b) = some (.val (.int (a * b))) := by
  show (if (two64 a || two64 b) = true then _ else _) = _
  rw [h, Bool.or_true, if_pos rfl]
theorem bn_mulL {a b : Int} (h : two64 a = true) : binD .mul (.int a) (.int b) = some (.val (.int (a * b))) := by
  show (if (two64 a || two64 b) = true then _ else _) = _
  rw [h, Bool.true_or, if_pos rfl]
theorem bn_div {a b : Int} : binD .fdiv (.int a) (.int b) = if 0 < b ∧ b < 1073741824 then some (.val (.int (a / b))) else none := rfl
theorem bn_mod {a b : Int} : binD .mod (.int a) (.int b) = if 0 < b then some (.val (.int (a % b))) else none := rfl
theorem bi_lent {l : List D} : biD .len (.tup l) = some (.val (.int l.length)) := rfl
theorem bi_lenl {l : List D} : biD .len (.lst l) = some (.val (.int l.length)) := rfl
theorem bi_tupt {l : List D} : biD .tuple (.tup l) = some (.val (.tup l)) := rfl
theorem bi_tupl {l : List D} : biD .tuple (.lst l) = some (.val (.tup l)) := rfl
theorem bi_listt {l : List D} : biD .list (.tup l) = some (.mls l) := rfl
theorem bi_listl {l : List D} : biD .list (.lst l) = some (.mls l) := rfl
theorem bi_int {i : Int} : biD .int (.int i) = some (.val (.int i)) := rfl
theorem bi_sum {l : List D} : biD .sum (.lst l) = (intsOf l).map fun r => .val (.int r.sum) := rfl
theorem bi_all {l : List D} : biD .all (.lst l) = (blsOf l).map fun r => .val (.bl (r.all id)) := rfl
theorem ix_t {l : List D} {i : Int} : ixD (.tup l) (.int i) = L2.atI l i := rfl
theorem ix_l {l : List D} {i : Int} : ixD (.lst l) (.int i) = L2.atI l i := rfl
theorem ix_s {x : Str} {i : Int} : ixD (.str x) (.int i) = strAt x i := rfl
theorem pt_no : partD true .non = some none := rfl
theorem pt_i {i : Int} : partD false (.int i) = some (some i) := rfl
theorem no_none : isNo .none = true := rfl
theorem no_int {i : Int} : isNo (.int i) = false := rfl
theorem no_v {i : Nat} : isNo (.v i) = false := rfl
theorem no_bin {o : Bop} {a b : E} : isNo (.bin o a b) = false := rfl
theorem no_neg {a : E} : isNo (.neg a) = false := rfl
theorem sl_t {a : List D} {l h : Option Int} : slD (.tup a) l h = some (.val (.tup (cutD a l h))) := rfl
theorem sl_l {a : List D} {l h : Option Int} : slD (.lst a) l h = some (.mls (cutD a l h)) := rfl
/-! ### numbers, places -/
theorem seq_big : 1000 ≤ seqLine := by decide
theorem lt_seq {n : Nat} (h : n ≤ 900) : n < seqLine := Nat.lt_of_lt_of_le (by omega) seq_big
theorem le_seq {n : Nat} (h : n ≤ 900) : n ≤ seqLine := Nat.le_of_lt (lt_seq h)
theorem cut_take (l : List D) (k : Nat) : cutD l none (some (k : Int)) = l.take k := by
  unfold cutD
  rw [HT.sIx_nat, HT.sIx_none, List.drop_zero, Nat.sub_zero]
  exact List.take_eq_take_min.symm
theorem cut_drop (l : List D) (k : Nat) : cutD l (some (k : Int)) none = l.drop k := by
  unfold cutD
  rw [HT.sIx_nat, HT.sIx_none]
  by_cases h : k ≤ l.length
  · rw [Nat.min_eq_left h, List.take_of_length_le (by simp)]
  · rw [Nat.min_eq_right (by omega), List.drop_length, List.drop_eq_nil_of_le (by omega)]
    simp
theorem a0 {x : D} {l : List D} : L2.atI (x :: l) 0 = some x := by
  unfold L2.atI L2.ixN
  simp
theorem at_nat {l : List D} {k : Nat} (h : k < l.length) : L2.atI l (k : Int) = l[k]? := by
  unfold L2.atI L2.ixN
  rw [if_pos (by omega : (0 : Int) ≤ (k : Int))]
  simp [h]
theorem a1 {x y : D} {l : List D} : L2.atI (x :: y :: l) 1 = some y := by
  have := at_nat (l := x :: y :: l) (k := 1) (by simp)
  simpa using this
theorem a2 {x y z : D} {l : List D} : L2.atI (x :: y :: z :: l) 2 = some z := by
  have := at_nat (l := x :: y :: z :: l) (k := 2) (by simp)
  simpa using this
theorem i2' : L2.ixN 3 2 = some 2 := rfl
theorem i1' : L2.ixN 3 1 = some 1 := rfl
theorem w1 : two64 69621 = true := by decide
theorem w2 : two64 48271 = true := by decide
theorem w3 : two64 40692 = true := by decide
theorem w4 : two64 2 = true := by decide
theorem w5 : two64 (-2) = true := by decide
theorem w6 : two64 4611686014132420609 = true := by decide
theorem w7 : two64 2147483647 = true := by decide
theorem pos_len (n : Nat) : decide ((0 : Int) < ((n + 1 : Nat) : Int)) = true := decide_eq_true (by omega)
theorem rng_len (lo c : Int) : ∀ n, (rngD lo c n).length = n
  | 0 => rfl
  | n + 1 => by simp only [rngD, List.length_cons, rng_len _ _ n]
theorem rng_s (k : Nat) (n : Nat) : rngD (k : Int) 1 (n + 1) = .int (k : Int) :: rngD ((k + 1 : Nat) : Int) 1 n := by
  show D.int (k : Int) :: rngD ((k : Int) + 1) 1 n = _
  rw [show ((k : Int) + 1) = ((k + 1 : Nat) : Int) by omega]
theorem rng_mem : ∀ (n k : Nat) (x : D), x ∈ rngD (k : Int) 1 n → ∃ j, k ≤ j ∧ j < k + n ∧ x = .int (j : Int)
  | 0, k, x, h => by simp [rngD] at h
  | n + 1, k, x, h => by
    rw [rng_s] at h
    rcases List.mem_cons.mp h with rfl | h
    · exact ⟨k, Nat.le_refl _, by omega, rfl⟩
    · obtain ⟨j, h1, h2, h3⟩ := rng_mem n (k + 1) x h
      exact ⟨j, by omega, by omega, h3⟩
theorem smallI_of {i : Int} (h : i.natAbs < 2 ^ 61) : smallI i = true := by
  unfold smallI
  refine decide_eq_true ?_
  by_cases h0 : i.natAbs = 0
  · rw [h0]; decide
  · exact (Nat.log2_lt h0).mpr h
theorem rng_ok {n : Nat} (h : n ≤ 1000) : rng2D (.int 0) (.int (n : Int)) = some (rngD ((0 : Nat) : Int) 1 n) := by
  unfold rng2D
  have : (smallI 0 && smallI (n : Int)) = true := by rw [smallI_of (i := (n : Int)) (by omega)]; rfl
  simp only [this, if_true, Int.sub_zero, Int.toNat_natCast]
  rfl
theorem nat_of {r : Int} (h : 0 ≤ r) : ∃ k : Nat, r = (k : Int) := ⟨r.toNat, (Int.toNat_of_nonneg h).symm⟩
/-! ### loops, comprehensions -/
theorem forL_nx {step : D → S → Res (Out × S)} {x : D} {l : List D} {s s' : S} (h : step x s = .ok (.nx, s')) : forL step (x :: l) s = forL step l s' := by
  simp only [forL, h, b2_k]
theorem forL_ret {step : D → S → Res (Out × S)} {x : D} {l : List D} {s s' : S} {r : Rv} (h : step x s = .ok (.ret r, s')) : forL step (x :: l) s = .ok (.ret r, s') := by
  simp only [forL, h, b2_k]
/-- a comprehension's one turn -/
def Turn1 (C : Calls) (D' : Nat → D) (vs : List Nat) (tg : Tg) (c : B) (el : E) (σ : List Rv) (M : Mem) (x : D) (o : Option D) (M' : Mem) : Prop :=
  ∃ σ1 σ2 σ3 M1 k, asgT tg (.val x) σ = some σ1 ∧ evB C D' c ⟨σ1, M⟩ = .ok (k, ⟨σ2, M1⟩) ∧ (if k = true then ∃ y, evE C D' el ⟨σ2, M1⟩ = .ok (y, ⟨σ3, M'⟩) ∧ o = some y.fz else σ3 = σ2 ∧ M' = M1 ∧ o = none) ∧ wipeR σ3 vs = σ
/-- the turns, from memory to memory -/
inductive TurnsL (C : Calls) (D' : Nat → D) (vs : List Nat) (tg : Tg) (c : B) (el : E) (σ : List Rv) : List D → Mem → List D → Mem → Prop
  | nil {M : Mem} : TurnsL C D' vs tg c el σ [] M [] M
  | cons {x : D} {o : Option D} {l ys : List D} {M M1 M2 : Mem} : Turn1 C D' vs tg c el σ M x o M1 → TurnsL C D' vs tg c el σ l M1 ys M2 → TurnsL C D' vs tg c el σ (x :: l) M (o.toList ++ ys) M2
theorem lcL_turns {C : Calls} {D' : Nat → D} {vs : List Nat} {tg : Tg} {c : B} {el : E} {σ : List Rv} (hw : wipeR σ vs = σ) : ∀ {l ys : List D} {M M' : Mem} (acc : List D), TurnsL C D' vs tg c el σ l M ys M' →
    lcL (fun x s => (opt (asgT tg (.val x) (wipeR s.σ vs))).bind fun σ => (evB C D' c { s with σ := σ }).b2 fun k s => if k = true then (evE C D' el s).b2 fun y s => .ok (some y.fz, { s with σ := wipeR s.σ vs }) else .ok (none, { s with σ := wipeR s.σ vs })) l ⟨σ, M⟩ acc = .ok (acc ++ ys, ⟨σ, M'⟩)
  | _, _, _, _, acc, .nil => by simp [lcL]
  | _, _, _, _, acc, .cons (o := o) h t => by
    obtain ⟨σ1, σ2, σ3, M1, k, h1, h2, h3, h4⟩ := h
    cases k with
    | true =>
      simp only [if_true] at h3
      obtain ⟨y, h3, rfl⟩ := h3
      have ih := lcL_turns hw (acc ++ [y.fz]) t
      simp only [lcL, hw, h1, op_k, bd_k, h2, b2_k, h3, if_true, h4]
      rw [ih]
      simp
    | false =>
      simp only [Bool.false_eq_true, if_false] at h3
      obtain ⟨rfl, rfl, rfl⟩ := h3
      have ih := lcL_turns hw acc t
      simp only [lcL, hw, h1, op_k, bd_k, h2, b2_k, Bool.false_eq_true, if_false, h4]
      rw [ih]
      simp
theorem ev_lcT {C : Calls} {D' : Nat → D} {vs : List Nat} {tg : Tg} {it : I} {c : B} {el : E} {s : S} {σ : List Rv} {M M' : Mem} {l ys : List D} (hi : evI C D' it s = .ok (l, ⟨σ, M⟩)) (hno : noOwn σ vs = true) (hl : l.length ≤ seqLine) (hw : wipeR σ vs = σ) (hb : backR σ σ vs = σ)
    (ht : TurnsL C D' vs tg c el σ l M ys M') : evE C D' (.lc vs tg it c el) s = .ok (.mls ys, ⟨σ, M'⟩) := by
  simp only [evE, hi, b2_k, hno, hl, and_self, if_true]
  rw [lcL_turns hw [] ht]
  simp only [b2_k, hb, List.nil_append]
/-- turns that change nothing in memory, each by itself -/
theorem turns_map {C : Calls} {D' : Nat → D} {vs : List Nat} {tg : Tg} {c : B} {el : E} {σ : List Rv} {M : Mem} {g : D → Option D} : ∀ {l : List D}, (∀ x, x ∈ l → Turn1 C D' vs tg c el σ M x (g x) M) → TurnsL C D' vs tg c el σ l M (l.filterMap g) M
  | [], _ => .nil
  | x :: l, h => by
    have := TurnsL.cons (h x List.mem_cons_self) (turns_map (l := l) fun y hy => h y (List.mem_cons_of_mem _ hy))
    cases e : g x with
    | none => rw [List.filterMap_cons_none e]; rw [e] at this; simpa using this
    | some y => rw [List.filterMap_cons_some e]; rw [e] at this; simpa using this
/-! ### the box -/
/-- what is left of the script, the digits, the seed; what else there is -/
def BoxM (cs : List Int) (d s : Int) (r : Mem) : Mem := .l (cs.map D.int) :: .l [.ref 0, .int d, .int s] :: r
def bBox : Ts := .cons (.ret (.rls (.cons (.rlist (.sl (.v 0) .none (.int 63))) (.cons (.int 0) (.cons (.rcat (.int 4711) (.bi .len (.v 0))) .nil))))) .nil
def bLoad : Ts := (.cons (.asg (.nm 1) (.ix (.v 0) (.int 0)))
    (.cons (.iff (.of (.cmp .gt (.bi .len (.v 1)) (.int 0))) (.cons (.asg (.nm 2) (.bi .int (.pop0 (.v 1))))
    (.cons (.asg (.nm 3) (.ife (.of (.cmp .ge (.v 2) (.int 0))) (.bin .mul (.int 2) (.v 2)) (.bin .sub (.bin .mul (.neg (.int 2)) (.v 2)) (.int 1))))
    (.cons (.iff (.of (.cmp .ge (.v 3) (.int 1000000000000000000))) (.cons (.rtv 3)
    .nil) .nil)
    (.cons (.setix (.v 0) (.int 2) (.bin .mod (.bi .int (.bin .add (.bin .add (.bin .mul (.ix (.v 0) (.int 2)) (.int 69621)) (.bin .mul (.v 3) (.int 48271))) (.int 11))) (.int 2147483647)))
    .nil)))) .nil)
    (.cons (.asg (.nm 4) (.bin .mod (.bi .int (.bin .add (.bin .mul (.ix (.v 0) (.int 2)) (.int 48271)) (.int 17))) (.int 2147483629)))
    (.cons (.asg (.nm 5) (.bin .mod (.bi .int (.bin .add (.bin .mul (.v 4) (.int 69621)) (.int 5))) (.int 2147483587)))
    (.cons (.setix (.v 0) (.int 2) (.bin .mod (.bi .int (.bin .add (.bin .mul (.v 5) (.int 40692)) (.int 3))) (.int 2147483563)))
    (.cons (.ret (.bin .add (.bin .add (.bin .mul (.v 4) (.int 4611686014132420609)) (.bin .mul (.v 5) (.int 2147483647))) (.ix (.v 0) (.int 2))))
    .nil))))))
def bDraw (ld : Nat) : Ts := (.cons (.iff (.of (.cmp .lt (.ix (.v 0) (.int 1)) (.v 1))) (.cons (.setix (.v 0) (.int 1) (.call ld (.cons (.v 0) .nil)))
    .nil) .nil)
    (.cons (.asg (.nm 2) (.bin .mod (.bi .int (.ix (.v 0) (.int 1))) (.v 1)))
    (.cons (.setix (.v 0) (.int 1) (.bin .fdiv (.ix (.v 0) (.int 1)) (.v 1)))
    (.cons (.rtv 2)
    .nil))))
theorem law_box {f : Nat} (h : Ps[f]? = some ⟨1, 1, bBox⟩) (n : Nat) (ks : List Int) : R Ps D' (n + 1) f [.lst (ks.map D.int)] [] = .ok (.val (.ref 1), BoxM (ks.take 63) 0 (4711 + ks.length) []) := by
  rw [r_step h rfl]
  have sl : cutD (ks.map D.int) none (some 63) = (ks.take 63).map D.int := by
    rw [show (63 : Int) = ((63 : Nat) : Int) from rfl, cut_take, List.map_take]
  have h3 : 3 ≤ seqLine := by decide
  simp only [rel_bl, rel_int, rel_str, rel_non, rel_tup, rel_tpx, rel_lst, rel_dic, rel_mls, evSs, evS, evE, evEs, evB, evI, asgT, asgTs, rdV_k, rd_val, rd_mls, b2_k, bd_k, op_k, op_n, fz_val, fz_mls, bl_k, dr_int, dr_bl, dr_non, dr_str, dr_tup, dr_lst, dr_dic, dr_tpx, tru_bl, tru_lst, tru_tup, cm_lt, cm_le, cm_gt, cm_ge, cm_eqi, cm_eqs, cm_nei, cm_nes, bn_add, bn_addt, bn_addl, bn_sub, bn_mulR, bn_mulL, bn_div, bn_mod, bi_lent, bi_lenl, bi_tupt, bi_tupl, bi_listt, bi_listl, bi_int, bi_sum, bi_all, ix_t, ix_l, ix_s, pt_no, pt_i, no_none, no_int, no_v, no_bin, no_neg, sl_t, sl_l, List.map_cons, List.map_nil, List.length_cons, List.length_nil, List.replicate, List.cons_append, List.nil_append, List.getElem?_cons_zero, List.getElem?_cons_succ, List.set_cons_zero, List.set_cons_succ, Option.bind_some, Option.map_some, Option.bind_none, Option.map_none, Nat.reduceAdd, Nat.reduceSub, Nat.reduceLT, Nat.reduceLeDiff, ↓reduceIte, reduceCtorEq, Bool.false_eq_true, Bool.true_and, Bool.and_true, Bool.false_and, Bool.and_false, Bool.not_true, Bool.not_false, if_true, if_false, bBox, sl, h3, List.length_map, out_ret]
  rfl
theorem law_load {f : Nat} (hf : Ps[f]? = some ⟨1, 6, bLoad⟩) (n : Nat) (cs : List Int) (d s : Int) (r : Mem) : ∃ (cs' : List Int) (v s' : Int), R Ps D' (n + 1) f [.ref 1] (BoxM cs d s r) = .ok (.val (.int v), BoxM cs' d s' r) := by
  rw [r_step hf rfl]
  have key : ∀ (cs : List Int) (d s : Int) (x y z : Rv), ∃ (cs' : List Int) (v s' : Int), outT (r.length + 1 + 1) (evSs (calls Ps D' n) D'
      (.cons (.asg (.nm 4) (.bin .mod (.bi .int (.bin .add (.bin .mul (.ix (.v 0) (.int 2)) (.int 48271)) (.int 17))) (.int 2147483629)))
    (.cons (.asg (.nm 5) (.bin .mod (.bi .int (.bin .add (.bin .mul (.v 4) (.int 69621)) (.int 5))) (.int 2147483587)))
    (.cons (.setix (.v 0) (.int 2) (.bin .mod (.bi .int (.bin .add (.bin .mul (.v 5) (.int 40692)) (.int 3))) (.int 2147483563)))
    (.cons (.ret (.bin .add (.bin .add (.bin .mul (.v 4) (.int 4611686014132420609)) (.bin .mul (.v 5) (.int 2147483647))) (.ix (.v 0) (.int 2))))
    .nil)))) ⟨[.val (.ref 1), .val (.ref 0), x, y, .un, .un], BoxM cs d s r⟩) = .ok (.val (.int v), BoxM cs' d s' r) := by
    intro cs d s x y z
    unfold BoxM
    simp only [rel_bl, rel_int, rel_str, rel_non, rel_tup, rel_tpx, rel_lst, rel_dic, rel_mls, evSs, evS, evE, evEs, evB, evI, asgT, asgTs, rdV_k, rd_val, rd_mls, b2_k, bd_k, op_k, op_n, fz_val, fz_mls, bl_k, dr_int, dr_bl, dr_non, dr_str, dr_tup, dr_lst, dr_dic, dr_tpx, tru_bl, tru_lst, tru_tup, cm_lt, cm_le, cm_gt, cm_ge, cm_eqi, cm_eqs, cm_nei, cm_nes, bn_add, bn_addt, bn_addl, bn_sub, bn_mulR, bn_mulL, bn_div, bn_mod, bi_lent, bi_lenl, bi_tupt, bi_tupl, bi_listt, bi_listl, bi_int, bi_sum, bi_all, ix_t, ix_l, ix_s, pt_no, pt_i, no_none, no_int, no_v, no_bin, no_neg, sl_t, sl_l, List.map_cons, List.map_nil, List.length_cons, List.length_nil, List.replicate, List.cons_append, List.nil_append, List.getElem?_cons_zero, List.getElem?_cons_succ, List.set_cons_zero, List.set_cons_succ, Option.bind_some, Option.map_some, Option.bind_none, Option.map_none, Nat.reduceAdd, Nat.reduceSub, Nat.reduceLT, Nat.reduceLeDiff, ↓reduceIte, reduceCtorEq, Bool.false_eq_true, Bool.true_and, Bool.and_true, Bool.false_and, Bool.and_false, Bool.not_true, Bool.not_false, if_true, if_false, dr_ref, drO_l, a2, i2', w1, w2, w3, w6, w7, Int.reduceLT, out_ret, trim2]
    exact ⟨cs, _, _, rfl⟩
  show ∃ (cs' : List Int) (v s' : Int), outT (r.length + 1 + 1) _ = _
  unfold bLoad
  cases cs with
  | nil =>
    obtain ⟨cs', v, s', h⟩ := key [] d s .un .un .un
    refine ⟨cs', v, s', ?_⟩
    rw [← h]
    unfold BoxM
    simp only [rel_bl, rel_int, rel_str, rel_non, rel_tup, rel_tpx, rel_lst, rel_dic, rel_mls, evSs, evS, evE, evEs, evB, evI, asgT, asgTs, rdV_k, rd_val, rd_mls, b2_k, bd_k, op_k, op_n, fz_val, fz_mls, bl_k, dr_int, dr_bl, dr_non, dr_str, dr_tup, dr_lst, dr_dic, dr_tpx, tru_bl, tru_lst, tru_tup, cm_lt, cm_le, cm_gt, cm_ge, cm_eqi, cm_eqs, cm_nei, cm_nes, bn_add, bn_addt, bn_addl, bn_sub, bn_mulR, bn_mulL, bn_div, bn_mod, bi_lent, bi_lenl, bi_tupt, bi_tupl, bi_listt, bi_listl, bi_int, bi_sum, bi_all, ix_t, ix_l, ix_s, pt_no, pt_i, no_none, no_int, no_v, no_bin, no_neg, sl_t, sl_l, List.map_cons, List.map_nil, List.length_cons, List.length_nil, List.replicate, List.cons_append, List.nil_append, List.getElem?_cons_zero, List.getElem?_cons_succ, List.set_cons_zero, List.set_cons_succ, Option.bind_some, Option.map_some, Option.bind_none, Option.map_none, Nat.reduceAdd, Nat.reduceSub, Nat.reduceLT, Nat.reduceLeDiff, ↓reduceIte, reduceCtorEq, Bool.false_eq_true, Bool.true_and, Bool.and_true, Bool.false_and, Bool.and_false, Bool.not_true, Bool.not_false, if_true, if_false, dr_ref, drO_l, a0, a2, i2', w1, w2, w3, w6, w7, Int.reduceLT, Int.ofNat_zero, Int.lt_irrefl, decide_false]
  | cons c cs =>
    by_cases h1 : 0 ≤ c
    · by_cases h2 : 1000000000000000000 ≤ 2 * c
      · refine ⟨cs, 2 * c, s, ?_⟩
        unfold BoxM
        simp only [rel_bl, rel_int, rel_str, rel_non, rel_tup, rel_tpx, rel_lst, rel_dic, rel_mls, evSs, evS, evE, evEs, evB, evI, asgT, asgTs, rdV_k, rd_val, rd_mls, b2_k, bd_k, op_k, op_n, fz_val, fz_mls, bl_k, dr_int, dr_bl, dr_non, dr_str, dr_tup, dr_lst, dr_dic, dr_tpx, tru_bl, tru_lst, tru_tup, cm_lt, cm_le, cm_gt, cm_ge, cm_eqi, cm_eqs, cm_nei, cm_nes, bn_add, bn_addt, bn_addl, bn_sub, bn_mulR, bn_mulL, bn_div, bn_mod, bi_lent, bi_lenl, bi_tupt, bi_tupl, bi_listt, bi_listl, bi_int, bi_sum, bi_all, ix_t, ix_l, ix_s, pt_no, pt_i, no_none, no_int, no_v, no_bin, no_neg, sl_t, sl_l, List.map_cons, List.map_nil, List.length_cons, List.length_nil, List.replicate, List.cons_append, List.nil_append, List.getElem?_cons_zero, List.getElem?_cons_succ, List.set_cons_zero, List.set_cons_succ, Option.bind_some, Option.map_some, Option.bind_none, Option.map_none, Nat.reduceAdd, Nat.reduceSub, Nat.reduceLT, Nat.reduceLeDiff, ↓reduceIte, reduceCtorEq, Bool.false_eq_true, Bool.true_and, Bool.and_true, Bool.false_and, Bool.and_false, Bool.not_true, Bool.not_false, if_true, if_false, dr_ref, drO_l, a0, a2, i2', w1, w2, w3, w4, w6, w7, h1, h2, decide_true, pos_len, Int.reduceLT, out_ret, trim2]
      · obtain ⟨cs', v, s', h⟩ := key cs d (Int.emod (s * 69621 + 2 * c * 48271 + 11) 2147483647) (.val (.int c)) (.val (.int (2 * c))) .un
        refine ⟨cs', v, s', ?_⟩
        rw [← h]
        unfold BoxM
        simp only [rel_bl, rel_int, rel_str, rel_non, rel_tup, rel_tpx, rel_lst, rel_dic, rel_mls, evSs, evS, evE, evEs, evB, evI, asgT, asgTs, rdV_k, rd_val, rd_mls, b2_k, bd_k, op_k, op_n, fz_val, fz_mls, bl_k, dr_int, dr_bl, dr_non, dr_str, dr_tup, dr_lst, dr_dic, dr_tpx, tru_bl, tru_lst, tru_tup, cm_lt, cm_le, cm_gt, cm_ge, cm_eqi, cm_eqs, cm_nei, cm_nes, bn_add, bn_addt, bn_addl, bn_sub, bn_mulR, bn_mulL, bn_div, bn_mod, bi_lent, bi_lenl, bi_tupt, bi_tupl, bi_listt, bi_listl, bi_int, bi_sum, bi_all, ix_t, ix_l, ix_s, pt_no, pt_i, no_none, no_int, no_v, no_bin, no_neg, sl_t, sl_l, List.map_cons, List.map_nil, List.length_cons, List.length_nil, List.replicate, List.cons_append, List.nil_append, List.getElem?_cons_zero, List.getElem?_cons_succ, List.set_cons_zero, List.set_cons_succ, Option.bind_some, Option.map_some, Option.bind_none, Option.map_none, Nat.reduceAdd, Nat.reduceSub, Nat.reduceLT, Nat.reduceLeDiff, ↓reduceIte, reduceCtorEq, Bool.false_eq_true, Bool.true_and, Bool.and_true, Bool.false_and, Bool.and_false, Bool.not_true, Bool.not_false, if_true, if_false, dr_ref, drO_l, a0, a2, i2', w1, w2, w3, w4, w6, w7, h1, h2, decide_true, decide_false, pos_len, Int.reduceLT]
        rfl
    · by_cases h2 : 1000000000000000000 ≤ -2 * c - 1
      · refine ⟨cs, -2 * c - 1, s, ?_⟩
        unfold BoxM
        simp only [rel_bl, rel_int, rel_str, rel_non, rel_tup, rel_tpx, rel_lst, rel_dic, rel_mls, evSs, evS, evE, evEs, evB, evI, asgT, asgTs, rdV_k, rd_val, rd_mls, b2_k, bd_k, op_k, op_n, fz_val, fz_mls, bl_k, dr_int, dr_bl, dr_non, dr_str, dr_tup, dr_lst, dr_dic, dr_tpx, tru_bl, tru_lst, tru_tup, cm_lt, cm_le, cm_gt, cm_ge, cm_eqi, cm_eqs, cm_nei, cm_nes, bn_add, bn_addt, bn_addl, bn_sub, bn_mulR, bn_mulL, bn_div, bn_mod, bi_lent, bi_lenl, bi_tupt, bi_tupl, bi_listt, bi_listl, bi_int, bi_sum, bi_all, ix_t, ix_l, ix_s, pt_no, pt_i, no_none, no_int, no_v, no_bin, no_neg, sl_t, sl_l, List.map_cons, List.map_nil, List.length_cons, List.length_nil, List.replicate, List.cons_append, List.nil_append, List.getElem?_cons_zero, List.getElem?_cons_succ, List.set_cons_zero, List.set_cons_succ, Option.bind_some, Option.map_some, Option.bind_none, Option.map_none, Nat.reduceAdd, Nat.reduceSub, Nat.reduceLT, Nat.reduceLeDiff, ↓reduceIte, reduceCtorEq, Bool.false_eq_true, Bool.true_and, Bool.and_true, Bool.false_and, Bool.and_false, Bool.not_true, Bool.not_false, if_true, if_false, dr_ref, drO_l, a0, a2, i2', w1, w2, w3, w5, w6, w7, h1, h2, decide_true, decide_false, pos_len, Int.reduceLT, Int.reduceNeg, out_ret, trim2]
      · obtain ⟨cs', v, s', h⟩ := key cs d (Int.emod (s * 69621 + (-2 * c - 1) * 48271 + 11) 2147483647) (.val (.int c)) (.val (.int (-2 * c - 1))) .un
        refine ⟨cs', v, s', ?_⟩
        rw [← h]
        unfold BoxM
        simp only [rel_bl, rel_int, rel_str, rel_non, rel_tup, rel_tpx, rel_lst, rel_dic, rel_mls, evSs, evS, evE, evEs, evB, evI, asgT, asgTs, rdV_k, rd_val, rd_mls, b2_k, bd_k, op_k, op_n, fz_val, fz_mls, bl_k, dr_int, dr_bl, dr_non, dr_str, dr_tup, dr_lst, dr_dic, dr_tpx, tru_bl, tru_lst, tru_tup, cm_lt, cm_le, cm_gt, cm_ge, cm_eqi, cm_eqs, cm_nei, cm_nes, bn_add, bn_addt, bn_addl, bn_sub, bn_mulR, bn_mulL, bn_div, bn_mod, bi_lent, bi_lenl, bi_tupt, bi_tupl, bi_listt, bi_listl, bi_int, bi_sum, bi_all, ix_t, ix_l, ix_s, pt_no, pt_i, no_none, no_int, no_v, no_bin, no_neg, sl_t, sl_l, List.map_cons, List.map_nil, List.length_cons, List.length_nil, List.replicate, List.cons_append, List.nil_append, List.getElem?_cons_zero, List.getElem?_cons_succ, List.set_cons_zero, List.set_cons_succ, Option.bind_some, Option.map_some, Option.bind_none, Option.map_none, Nat.reduceAdd, Nat.reduceSub, Nat.reduceLT, Nat.reduceLeDiff, ↓reduceIte, reduceCtorEq, Bool.false_eq_true, Bool.true_and, Bool.and_true, Bool.false_and, Bool.and_false, Bool.not_true, Bool.not_false, if_true, if_false, dr_ref, drO_l, a0, a2, i2', w1, w2, w3, w5, w6, w7, h1, h2, decide_true, decide_false, pos_len, Int.reduceLT, Int.reduceNeg]
        rfl
/-- a def that draws digits: so -/
structure Bxs (Ps : List Fd) (ld dw : Nat) : Prop where
  a : Ps[ld]? = some ⟨1, 6, bLoad⟩
  b : Ps[dw]? = some ⟨2, 3, bDraw ld⟩
theorem law_draw {ld dw : Nat} (hb : Bxs Ps ld dw) (n : Nat) (k : Int) (h0 : 0 < k) (h1 : k < 1073741824) (cs : List Int) (d s : Int) (r : Mem) : ∃ (v : Int) (cs' : List Int) (d' s' : Int), 0 ≤ v ∧ v < k ∧ R Ps D' (n + 2) dw [.ref 1, .int k] (BoxM cs d s r) = .ok (.val (.int v), BoxM cs' d' s' r) := by
  rw [r_step hb.b rfl]
  show ∃ (v : Int) (cs' : List Int) (d' s' : Int), 0 ≤ v ∧ v < k ∧ outT (r.length + 1 + 1) _ = _
  unfold bDraw
  by_cases hd : d < k
  · obtain ⟨cs', v, s', h⟩ := law_load (D' := D') hb.a n cs d s r
    refine ⟨v % k, cs', v / k, s', Int.emod_nonneg _ (by omega), Int.emod_lt_of_pos _ h0, ?_⟩
    unfold BoxM at h ⊢
    simp only [rel_bl, rel_int, rel_str, rel_non, rel_tup, rel_tpx, rel_lst, rel_dic, rel_mls, evSs, evS, evE, evEs, evB, evI, asgT, asgTs, rdV_k, rd_val, rd_mls, b2_k, bd_k, op_k, op_n, fz_val, fz_mls, bl_k, dr_int, dr_bl, dr_non, dr_str, dr_tup, dr_lst, dr_dic, dr_tpx, tru_bl, tru_lst, tru_tup, cm_lt, cm_le, cm_gt, cm_ge, cm_eqi, cm_eqs, cm_nei, cm_nes, bn_add, bn_addt, bn_addl, bn_sub, bn_mulR, bn_mulL, bn_div, bn_mod, bi_lent, bi_lenl, bi_tupt, bi_tupl, bi_listt, bi_listl, bi_int, bi_sum, bi_all, ix_t, ix_l, ix_s, pt_no, pt_i, no_none, no_int, no_v, no_bin, no_neg, sl_t, sl_l, List.map_cons, List.map_nil, List.length_cons, List.length_nil, List.replicate, List.cons_append, List.nil_append, List.getElem?_cons_zero, List.getElem?_cons_succ, List.set_cons_zero, List.set_cons_succ, Option.bind_some, Option.map_some, Option.bind_none, Option.map_none, Nat.reduceAdd, Nat.reduceSub, Nat.reduceLT, Nat.reduceLeDiff, ↓reduceIte, reduceCtorEq, Bool.false_eq_true, Bool.true_and, Bool.and_true, Bool.false_and, Bool.and_false, Bool.not_true, Bool.not_false, if_true, if_false, dr_ref, drO_l, a0, a1, a2, i1', i2', h, hd, h0, h1, decide_true, and_self, Int.reduceLT, out_ret, trim2]
  · refine ⟨d % k, cs, d / k, s, Int.emod_nonneg _ (by omega), Int.emod_lt_of_pos _ h0, ?_⟩
    unfold BoxM
    simp only [rel_bl, rel_int, rel_str, rel_non, rel_tup, rel_tpx, rel_lst, rel_dic, rel_mls, evSs, evS, evE, evEs, evB, evI, asgT, asgTs, rdV_k, rd_val, rd_mls, b2_k, bd_k, op_k, op_n, fz_val, fz_mls, bl_k, dr_int, dr_bl, dr_non, dr_str, dr_tup, dr_lst, dr_dic, dr_tpx, tru_bl, tru_lst, tru_tup, cm_lt, cm_le, cm_gt, cm_ge, cm_eqi, cm_eqs, cm_nei, cm_nes, bn_add, bn_addt, bn_addl, bn_sub, bn_mulR, bn_mulL, bn_div, bn_mod, bi_lent, bi_lenl, bi_tupt, bi_tupl, bi_listt, bi_listl, bi_int, bi_sum, bi_all, ix_t, ix_l, ix_s, pt_no, pt_i, no_none, no_int, no_v, no_bin, no_neg, sl_t, sl_l, List.map_cons, List.map_nil, List.length_cons, List.length_nil, List.replicate, List.cons_append, List.nil_append, List.getElem?_cons_zero, List.getElem?_cons_succ, List.set_cons_zero, List.set_cons_succ, Option.bind_some, Option.map_some, Option.bind_none, Option.map_none, Nat.reduceAdd, Nat.reduceSub, Nat.reduceLT, Nat.reduceLeDiff, ↓reduceIte, reduceCtorEq, Bool.false_eq_true, Bool.true_and, Bool.and_true, Bool.false_and, Bool.and_false, Bool.not_true, Bool.not_false, if_true, if_false, dr_ref, drO_l, a0, a1, a2, i1', i2', hd, h0, h1, decide_true, decide_false, and_self, Int.reduceLT, out_ret, trim2]
end Ul


set_option Elab.async false
set_option linter.all false
set_option maxRecDepth 100000
set_option maxHeartbeats 4000000
/-! UB: for every law: the law's own sameness. -/
namespace Ul
open PySem Ev
variable {Ps : List Fd} {D' : Nat → D}
/-- plain data of no more than that depth -/
def Pl : Nat → D → Prop
  | _, .non => True
  | _, .bl _ => True
  | _, .int _ => True
  | _, .str _ => True
  | e + 1, .tup l => l.length ≤ 900 ∧ ∀ x ∈ l, Pl e x
  | e + 1, .lst l => l.length ≤ 900 ∧ ∀ x ∈ l, Pl e x
  | _, _ => False
theorem Pl.succ : ∀ (e : Nat) (d : D), Pl e d → Pl (e + 1) d
  | 0, .tup l, h => h.elim
  | 0, .lst l, h => h.elim
  | e + 1, .tup l, h => ⟨h.1, fun x hx => Pl.succ e x (h.2 x hx)⟩
  | e + 1, .lst l, h => ⟨h.1, fun x hx => Pl.succ e x (h.2 x hx)⟩
  | 0, .non, _ => trivial
  | 0, .bl _, _ => trivial
  | 0, .int _, _ => trivial
  | 0, .str _, _ => trivial
  | e + 1, .non, _ => trivial
  | e + 1, .bl _, _ => trivial
  | e + 1, .int _, _ => trivial
  | e + 1, .str _, _ => trivial
  | 0, .dic _ _, h => h.elim
  | e + 1, .dic _ _, h => h.elim
  | 0, .ref _, h => h.elim
  | e + 1, .ref _, h => h.elim
  | 0, .tpx _, h => h.elim
  | e + 1, .tpx _, h => h.elim
theorem Pl.mono {e e' : Nat} {d : D} (h : Pl e d) (k : e ≤ e') : Pl e' d := by
  induction k with
  | refl => exact h
  | step _ ih => exact Pl.succ _ _ ih
def bSame1 (me : Nat) : E := .lc [2] (.nm 2) (.rng1 (.bi .len (.v 0))) .yes (.call me (.cons (.ix (.v 0) (.v 2)) (.cons (.ix (.v 1) (.v 2)) .nil)))
def bSame (me : Nat) : Ts := (.cons (.iff (.or (.and (.of (.isi (.v 0) .tuple)) (.of (.isi (.v 1) .tuple))) (.and (.of (.isi (.v 0) .list)) (.of (.isi (.v 1) .list)))) (.cons (.ret (.and (.cmp .eq (.bi .len (.v 0)) (.bi .len (.v 1))) (.bi .all (bSame1 me))))
    .nil) .nil)
    (.cons (.iff (.or (.of (.isi (.v 0) .bool)) (.of (.isi (.v 1) .bool))) (.cons (.ret (.and (.isi (.v 0) .bool) (.and (.isi (.v 1) .bool) (.cmp .eq (.v 0) (.v 1)))))
    .nil) .nil)
    (.cons (.iff (.or (.and (.of (.isi (.v 0) .int)) (.of (.isi (.v 1) .int))) (.and (.of (.isi (.v 0) .str)) (.of (.isi (.v 1) .str)))) (.cons (.ret (.cmp .eq (.v 0) (.v 1)))
    .nil) .nil)
    (.cons (.ret (.and (.isn (.v 0)) (.isn (.v 1))))
    .nil))))
theorem bls_true : ∀ l : List D, blsOf (l.map fun _ => D.bl true) = some (l.map fun _ => true)
  | [] => rfl
  | x :: l => by simp only [List.map_cons, blsOf, bls_true l, Option.map_some]
theorem bls_of : ∀ l : List Bool, blsOf (l.map D.bl) = some l
  | [] => rfl
  | x :: l => by simp only [List.map_cons, blsOf, bls_of l, Option.map_some]
theorem all_true : ∀ l : List D, (l.map fun _ => true).all id = true
  | [] => rfl
  | x :: l => by simp only [List.map_cons, List.all_cons, all_true l, id, Bool.and_self]
theorem is_tt {l : List D} : isTy .tuple (.tup l) = some true := rfl
theorem is_tl {l : List D} : isTy .tuple (.lst l) = some false := rfl
theorem is_ll {l : List D} : isTy .list (.lst l) = some true := rfl
/-- turns with one value each -/
theorem turns_yes {C : Calls} {vs : List Nat} {tg : Tg} {el : E} {σ : List Rv} {M : Mem} {g : D → D} {l : List D} (h : ∀ x, x ∈ l → ∃ σ1 σ3 y, asgT tg (.val x) σ = some σ1 ∧ evE C D' el ⟨σ1, M⟩ = .ok (y, ⟨σ3, M⟩) ∧ y.fz = g x ∧ wipeR σ3 vs = σ) :
    TurnsL C D' vs tg .yes el σ l M (l.map g) M := by
  have := turns_map (C := C) (D' := D') (vs := vs) (tg := tg) (c := .yes) (el := el) (σ := σ) (M := M) (g := fun x => some (g x)) (l := l) fun x hx => by
    obtain ⟨σ1, σ3, y, h1, h2, h3, h4⟩ := h x hx
    exact ⟨σ1, σ1, σ3, M, true, h1, rfl, ⟨y, h2, by rw [h3]⟩, h4⟩
  rwa [List.filterMap_eq_map'] at this
theorem same1 {me : Nat} (n : Nat) (v : D) (l : List D) (hv : v = .tup l ∨ v = .lst l) (hl : l.length ≤ 900) (h : ∀ x ∈ l, ∀ M, R Ps D' n me [x, x] M = .ok (.val (.bl true), M)) (M : Mem) :
    evE (calls Ps D' n) D' (bSame1 me) ⟨[.val v, .val v, .un], M⟩ = .ok (.mls ((rngD ((0 : Nat) : Int) 1 l.length).map fun _ => .bl true), ⟨[.val v, .val v, .un], M⟩) := by
  have rg := rng_ok (n := l.length) (by omega)
  have hi : evI (calls Ps D' n) D' (.rng1 (.bi .len (.v 0))) ⟨[.val v, .val v, .un], M⟩ = .ok (rngD ((0 : Nat) : Int) 1 l.length, ⟨[.val v, .val v, .un], M⟩) := by
    rcases hv with rfl | rfl <;> simp only [rel_bl, rel_int, rel_str, rel_non, rel_tup, rel_tpx, rel_lst, rel_dic, rel_mls, evSs, evS, evE, evEs, evB, evI, asgT, asgTs, rdV_k, rd_val, rd_mls, b2_k, bd_k, op_k, op_n, fz_val, fz_mls, bl_k, dr_int, dr_bl, dr_non, dr_str, dr_tup, dr_lst, dr_dic, dr_tpx, tru_bl, tru_lst, tru_tup, cm_lt, cm_le, cm_gt, cm_ge, cm_eqi, cm_eqs, cm_nei, cm_nes, bn_add, bn_addt, bn_addl, bn_sub, bn_mulR, bn_mulL, bn_div, bn_mod, bi_lent, bi_lenl, bi_tupt, bi_tupl, bi_listt, bi_listl, bi_int, bi_sum, bi_all, ix_t, ix_l, ix_s, pt_no, pt_i, no_none, no_int, no_v, no_bin, no_neg, sl_t, sl_l, List.map_cons, List.map_nil, List.length_cons, List.length_nil, List.replicate, List.cons_append, List.nil_append, List.getElem?_cons_zero, List.getElem?_cons_succ, List.set_cons_zero, List.set_cons_succ, Option.bind_some, Option.map_some, Option.bind_none, Option.map_none, Nat.reduceAdd, Nat.reduceSub, Nat.reduceLT, Nat.reduceLeDiff, ↓reduceIte, reduceCtorEq, Bool.false_eq_true, Bool.true_and, Bool.and_true, Bool.false_and, Bool.and_false, Bool.not_true, Bool.not_false, if_true, if_false, rg]
  unfold bSame1
  refine ev_lcT hi rfl (by rw [rng_len]; exact le_seq hl) rfl rfl (turns_yes fun d hd => ?_)
  obtain ⟨j, _, hj, rfl⟩ := rng_mem _ _ _ hd
  rw [Nat.zero_add] at hj
  have ex : l[j]? = some l[j] := by simp [hj]
  have ea : L2.atI l (j : Int) = some l[j] := by rw [at_nat hj, ex]
  have hc := h l[j] (List.getElem_mem hj) M
  refine ⟨[.val v, .val v, .val (.int j)], [.val v, .val v, .val (.int j)], .val (.bl true), rfl, ?_, rfl, rfl⟩
  rcases hv with rfl | rfl <;> simp only [rel_bl, rel_int, rel_str, rel_non, rel_tup, rel_tpx, rel_lst, rel_dic, rel_mls, evSs, evS, evE, evEs, evB, evI, asgT, asgTs, rdV_k, rd_val, rd_mls, b2_k, bd_k, op_k, op_n, fz_val, fz_mls, bl_k, dr_int, dr_bl, dr_non, dr_str, dr_tup, dr_lst, dr_dic, dr_tpx, tru_bl, tru_lst, tru_tup, cm_lt, cm_le, cm_gt, cm_ge, cm_eqi, cm_eqs, cm_nei, cm_nes, bn_add, bn_addt, bn_addl, bn_sub, bn_mulR, bn_mulL, bn_div, bn_mod, bi_lent, bi_lenl, bi_tupt, bi_tupl, bi_listt, bi_listl, bi_int, bi_sum, bi_all, ix_t, ix_l, ix_s, pt_no, pt_i, no_none, no_int, no_v, no_bin, no_neg, sl_t, sl_l, List.map_cons, List.map_nil, List.length_cons, List.length_nil, List.replicate, List.cons_append, List.nil_append, List.getElem?_cons_zero, List.getElem?_cons_succ, List.set_cons_zero, List.set_cons_succ, Option.bind_some, Option.map_some, Option.bind_none, Option.map_none, Nat.reduceAdd, Nat.reduceSub, Nat.reduceLT, Nat.reduceLeDiff, ↓reduceIte, reduceCtorEq, Bool.false_eq_true, Bool.true_and, Bool.and_true, Bool.false_and, Bool.and_false, Bool.not_true, Bool.not_false, if_true, if_false, ea, hc]
theorem same {me : Nat} (hm : Ps[me]? = some ⟨2, 3, bSame me⟩) : ∀ (e n : Nat) (d : D), Pl e d → ∀ M, R Ps D' (n + e + 1) me [d, d] M = .ok (.val (.bl true), M) := by
  have atom : ∀ (n : Nat) (d : D), (match d with | .non => True | .bl _ => True | .int _ => True | .str _ => True | _ => False) → ∀ M, R Ps D' (n + 1) me [d, d] M = .ok (.val (.bl true), M) := by
    intro n d h M
    rw [r_step hm rfl]
    unfold bSame
    cases d <;> first | exact h.elim | skip
    · simp only [rel_bl, rel_int, rel_str, rel_non, rel_tup, rel_tpx, rel_lst, rel_dic, rel_mls, evSs, evS, evE, evEs, evB, evI, asgT, asgTs, rdV_k, rd_val, rd_mls, b2_k, bd_k, op_k, op_n, fz_val, fz_mls, bl_k, dr_int, dr_bl, dr_non, dr_str, dr_tup, dr_lst, dr_dic, dr_tpx, tru_bl, tru_lst, tru_tup, cm_lt, cm_le, cm_gt, cm_ge, cm_eqi, cm_eqs, cm_nei, cm_nes, bn_add, bn_addt, bn_addl, bn_sub, bn_mulR, bn_mulL, bn_div, bn_mod, bi_lent, bi_lenl, bi_tupt, bi_tupl, bi_listt, bi_listl, bi_int, bi_sum, bi_all, ix_t, ix_l, ix_s, pt_no, pt_i, no_none, no_int, no_v, no_bin, no_neg, sl_t, sl_l, List.map_cons, List.map_nil, List.length_cons, List.length_nil, List.replicate, List.cons_append, List.nil_append, List.getElem?_cons_zero, List.getElem?_cons_succ, List.set_cons_zero, List.set_cons_succ, Option.bind_some, Option.map_some, Option.bind_none, Option.map_none, Nat.reduceAdd, Nat.reduceSub, Nat.reduceLT, Nat.reduceLeDiff, ↓reduceIte, reduceCtorEq, Bool.false_eq_true, Bool.true_and, Bool.and_true, Bool.false_and, Bool.and_false, Bool.not_true, Bool.not_false, if_true, if_false, isTy, isNon, out_ret, trimM]
    · rename_i b
      cases b <;> simp only [rel_bl, rel_int, rel_str, rel_non, rel_tup, rel_tpx, rel_lst, rel_dic, rel_mls, evSs, evS, evE, evEs, evB, evI, asgT, asgTs, rdV_k, rd_val, rd_mls, b2_k, bd_k, op_k, op_n, fz_val, fz_mls, bl_k, dr_int, dr_bl, dr_non, dr_str, dr_tup, dr_lst, dr_dic, dr_tpx, tru_bl, tru_lst, tru_tup, cm_lt, cm_le, cm_gt, cm_ge, cm_eqi, cm_eqs, cm_nei, cm_nes, bn_add, bn_addt, bn_addl, bn_sub, bn_mulR, bn_mulL, bn_div, bn_mod, bi_lent, bi_lenl, bi_tupt, bi_tupl, bi_listt, bi_listl, bi_int, bi_sum, bi_all, ix_t, ix_l, ix_s, pt_no, pt_i, no_none, no_int, no_v, no_bin, no_neg, sl_t, sl_l, List.map_cons, List.map_nil, List.length_cons, List.length_nil, List.replicate, List.cons_append, List.nil_append, List.getElem?_cons_zero, List.getElem?_cons_succ, List.set_cons_zero, List.set_cons_succ, Option.bind_some, Option.map_some, Option.bind_none, Option.map_none, Nat.reduceAdd, Nat.reduceSub, Nat.reduceLT, Nat.reduceLeDiff, ↓reduceIte, reduceCtorEq, Bool.false_eq_true, Bool.true_and, Bool.and_true, Bool.false_and, Bool.and_false, Bool.not_true, Bool.not_false, if_true, if_false, isTy, cmpD, eqD, out_ret, trimM] <;> rfl
    · rename_i i
      simp only [rel_bl, rel_int, rel_str, rel_non, rel_tup, rel_tpx, rel_lst, rel_dic, rel_mls, evSs, evS, evE, evEs, evB, evI, asgT, asgTs, rdV_k, rd_val, rd_mls, b2_k, bd_k, op_k, op_n, fz_val, fz_mls, bl_k, dr_int, dr_bl, dr_non, dr_str, dr_tup, dr_lst, dr_dic, dr_tpx, tru_bl, tru_lst, tru_tup, cm_lt, cm_le, cm_gt, cm_ge, cm_eqi, cm_eqs, cm_nei, cm_nes, bn_add, bn_addt, bn_addl, bn_sub, bn_mulR, bn_mulL, bn_div, bn_mod, bi_lent, bi_lenl, bi_tupt, bi_tupl, bi_listt, bi_listl, bi_int, bi_sum, bi_all, ix_t, ix_l, ix_s, pt_no, pt_i, no_none, no_int, no_v, no_bin, no_neg, sl_t, sl_l, List.map_cons, List.map_nil, List.length_cons, List.length_nil, List.replicate, List.cons_append, List.nil_append, List.getElem?_cons_zero, List.getElem?_cons_succ, List.set_cons_zero, List.set_cons_succ, Option.bind_some, Option.map_some, Option.bind_none, Option.map_none, Nat.reduceAdd, Nat.reduceSub, Nat.reduceLT, Nat.reduceLeDiff, ↓reduceIte, reduceCtorEq, Bool.false_eq_true, Bool.true_and, Bool.and_true, Bool.false_and, Bool.and_false, Bool.not_true, Bool.not_false, if_true, if_false, isTy, decide_true, out_ret, trimM]
    · rename_i x
      simp only [rel_bl, rel_int, rel_str, rel_non, rel_tup, rel_tpx, rel_lst, rel_dic, rel_mls, evSs, evS, evE, evEs, evB, evI, asgT, asgTs, rdV_k, rd_val, rd_mls, b2_k, bd_k, op_k, op_n, fz_val, fz_mls, bl_k, dr_int, dr_bl, dr_non, dr_str, dr_tup, dr_lst, dr_dic, dr_tpx, tru_bl, tru_lst, tru_tup, cm_lt, cm_le, cm_gt, cm_ge, cm_eqi, cm_eqs, cm_nei, cm_nes, bn_add, bn_addt, bn_addl, bn_sub, bn_mulR, bn_mulL, bn_div, bn_mod, bi_lent, bi_lenl, bi_tupt, bi_tupl, bi_listt, bi_listl, bi_int, bi_sum, bi_all, ix_t, ix_l, ix_s, pt_no, pt_i, no_none, no_int, no_v, no_bin, no_neg, sl_t, sl_l, List.map_cons, List.map_nil, List.length_cons, List.length_nil, List.replicate, List.cons_append, List.nil_append, List.getElem?_cons_zero, List.getElem?_cons_succ, List.set_cons_zero, List.set_cons_succ, Option.bind_some, Option.map_some, Option.bind_none, Option.map_none, Nat.reduceAdd, Nat.reduceSub, Nat.reduceLT, Nat.reduceLeDiff, ↓reduceIte, reduceCtorEq, Bool.false_eq_true, Bool.true_and, Bool.and_true, Bool.false_and, Bool.and_false, Bool.not_true, Bool.not_false, if_true, if_false, isTy, decide_true, out_ret, trimM]
  intro e
  induction e with
  | zero =>
    intro n d h M
    refine atom n d ?_ M
    cases d <;> first | trivial | exact h
  | succ e ih =>
    intro n d h M
    have seqc : ∀ (l : List D), (d = .tup l ∨ d = .lst l) → l.length ≤ 900 → (∀ x ∈ l, Pl e x) → R Ps D' (n + (e + 1) + 1) me [d, d] M = .ok (.val (.bl true), M) := by
      intro l hd hl hx
      have e9 : n + (e + 1) + 1 = (n + e + 1) + 1 := by omega
      rw [e9, r_step hm rfl]
      have hlc := same1 (Ps := Ps) (D' := D') (me := me) (n + e + 1) d l hd hl (fun x hx' M => ih n x (hx x hx') M) M
      have hb := bls_true (rngD ((0 : Nat) : Int) 1 l.length)
      have ha := all_true (rngD ((0 : Nat) : Int) 1 l.length)
      unfold bSame
      rcases hd with rfl | rfl
      · simp only [rel_bl, rel_int, rel_str, rel_non, rel_tup, rel_tpx, rel_lst, rel_dic, rel_mls, evSs, evS, evE, evEs, evB, evI, asgT, asgTs, rdV_k, rd_val, rd_mls, b2_k, bd_k, op_k, op_n, fz_val, fz_mls, bl_k, dr_int, dr_bl, dr_non, dr_str, dr_tup, dr_lst, dr_dic, dr_tpx, tru_bl, tru_lst, tru_tup, cm_lt, cm_le, cm_gt, cm_ge, cm_eqi, cm_eqs, cm_nei, cm_nes, bn_add, bn_addt, bn_addl, bn_sub, bn_mulR, bn_mulL, bn_div, bn_mod, bi_lent, bi_lenl, bi_tupt, bi_tupl, bi_listt, bi_listl, bi_int, bi_sum, bi_all, ix_t, ix_l, ix_s, pt_no, pt_i, no_none, no_int, no_v, no_bin, no_neg, sl_t, sl_l, List.map_cons, List.map_nil, List.length_cons, List.length_nil, List.replicate, List.cons_append, List.nil_append, List.getElem?_cons_zero, List.getElem?_cons_succ, List.set_cons_zero, List.set_cons_succ, Option.bind_some, Option.map_some, Option.bind_none, Option.map_none, Nat.reduceAdd, Nat.reduceSub, Nat.reduceLT, Nat.reduceLeDiff, ↓reduceIte, reduceCtorEq, Bool.false_eq_true, Bool.true_and, Bool.and_true, Bool.false_and, Bool.and_false, Bool.not_true, Bool.not_false, if_true, if_false, is_tt, decide_true, hlc, hb, ha, out_ret, trimM]
      · simp only [rel_bl, rel_int, rel_str, rel_non, rel_tup, rel_tpx, rel_lst, rel_dic, rel_mls, evSs, evS, evE, evEs, evB, evI, asgT, asgTs, rdV_k, rd_val, rd_mls, b2_k, bd_k, op_k, op_n, fz_val, fz_mls, bl_k, dr_int, dr_bl, dr_non, dr_str, dr_tup, dr_lst, dr_dic, dr_tpx, tru_bl, tru_lst, tru_tup, cm_lt, cm_le, cm_gt, cm_ge, cm_eqi, cm_eqs, cm_nei, cm_nes, bn_add, bn_addt, bn_addl, bn_sub, bn_mulR, bn_mulL, bn_div, bn_mod, bi_lent, bi_lenl, bi_tupt, bi_tupl, bi_listt, bi_listl, bi_int, bi_sum, bi_all, ix_t, ix_l, ix_s, pt_no, pt_i, no_none, no_int, no_v, no_bin, no_neg, sl_t, sl_l, List.map_cons, List.map_nil, List.length_cons, List.length_nil, List.replicate, List.cons_append, List.nil_append, List.getElem?_cons_zero, List.getElem?_cons_succ, List.set_cons_zero, List.set_cons_succ, Option.bind_some, Option.map_some, Option.bind_none, Option.map_none, Nat.reduceAdd, Nat.reduceSub, Nat.reduceLT, Nat.reduceLeDiff, ↓reduceIte, reduceCtorEq, Bool.false_eq_true, Bool.true_and, Bool.and_true, Bool.false_and, Bool.and_false, Bool.not_true, Bool.not_false, if_true, if_false, is_tl, is_ll, decide_true, hlc, hb, ha, out_ret, trimM]
    cases d with
    | tup l => exact seqc l (.inl rfl) h.1 h.2
    | lst l => exact seqc l (.inr rfl) h.1 h.2
    | non => exact atom (n + (e + 1)) _ trivial M
    | bl b => exact atom (n + (e + 1)) _ trivial M
    | int i => exact atom (n + (e + 1)) _ trivial M
    | str x => exact atom (n + (e + 1)) _ trivial M
    | dic a b => exact h.elim
    | ref m => exact h.elim
    | tpx m => exact h.elim
end Ul


set_option Elab.async false
set_option linter.all false
set_option maxRecDepth 100000
set_option maxHeartbeats 4000000
/-! UC: for every law: draws in comprehensions, a box with whatever it holds; equality with a list of ints, membership, sorted ints. -/
namespace Ul
open PySem Ev
variable {Ps : List Fd} {D' : Nat → D}
/-- a box, and what else there is in memory -/
def Bx (r M : Mem) : Prop := ∃ cs d s, M = BoxM cs d s r
theorem Bx.len {r M : Mem} (h : Bx r M) : M.length = r.length + 2 := by obtain ⟨cs, d, s, rfl⟩ := h; rfl
theorem Bx.len0 {M : Mem} (h : Bx [] M) : M.length = 2 := h.len
theorem Bx.get {r M : Mem} (h : Bx r M) (i : Nat) : M[i + 2]? = r[i]? := by obtain ⟨cs, d, s, rfl⟩ := h; rfl
theorem Bx.app {r M : Mem} (h : Bx r M) (x : Mem) : Bx (r ++ x) (M ++ x) := by obtain ⟨cs, d, s, rfl⟩ := h; exact ⟨cs, d, s, rfl⟩
theorem Bx.set {r M : Mem} (h : Bx r M) (i : Nat) (x : MO) : Bx (r.set i x) (M.set (i + 2) x) := by obtain ⟨cs, d, s, rfl⟩ := h; exact ⟨cs, d, s, rfl⟩
theorem rfs_ints (n : Nat) : ∀ l : List Int, rfBs n (l.map D.int) = true
  | [] => rfl
  | x :: l => by show (rfB n (.int x) && rfBs n (l.map D.int)) = true; rw [rfs_ints n l]; rfl
theorem Bx.trim {r M : Mem} (h : Bx r M) {v : Rv} (hv : rvB 2 v = true) : Bx [] (trim 2 v M) := by
  obtain ⟨cs, d, s, rfl⟩ := h
  unfold Ev.trim
  by_cases hl : (BoxM cs d s r).length ≤ 2
  · rw [if_pos hl]
    have : r = [] := List.length_eq_zero_iff.mp (by have : (BoxM cs d s r).length = r.length + 2 := rfl; omega)
    exact ⟨cs, d, s, by rw [this]⟩
  · have e : (BoxM cs d s r).take 2 = BoxM cs d s [] := rfl
    have m : ((BoxM cs d s r).take 2).all (moB 2) = true := by
      rw [e]
      show (moB 2 (.l (cs.map D.int)) && (moB 2 (.l [.ref 0, .int d, .int s]) && true)) = true
      have : moB 2 (.l (cs.map D.int)) = true := rfs_ints 2 cs
      rw [this]
      rfl
    rw [if_neg hl, hv, m, e]
    show Bx [] (BoxM cs d s [])
    exact ⟨cs, d, s, rfl⟩
theorem Bx.nil {M : Mem} (h : Bx [] M) {v : Rv} : Ev.trim 2 v M = M := trim_le (by rw [h.len0]; exact Nat.le_refl _)
theorem bx_draw {ld dw : Nat} (hb : Bxs Ps ld dw) (n : Nat) (k : Int) (h0 : 0 < k) (h1 : k < 1073741824) {r M : Mem} (h : Bx r M) : ∃ (v : Int) (M' : Mem), 0 ≤ v ∧ v < k ∧ Bx r M' ∧ calls Ps D' (n + 2) dw [.ref 1, .int k] M = .ok (.val (.int v), M') := by
  obtain ⟨cs, d, s, rfl⟩ := h
  obtain ⟨v, cs', d', s', a, b, e⟩ := law_draw (D' := D') hb n k h0 h1 cs d s r
  exact ⟨v, _, a, b, ⟨cs', d', s', rfl⟩, e⟩
/-- the first turn changes the names' lists (an owned one is shared from then on) -/
theorem ev_lcF {C : Calls} {vs : List Nat} {tg : Tg} {it : I} {c : B} {el : E} {s : S} {σ0 σ1 σ σa σb σc : List Rv} {M Ma Mb M' : Mem} {x : D} {l ys : List D} {o : Option D} {k : Bool} (hi : evI C D' it s = .ok (x :: l, ⟨σ0, M⟩)) (hno : noOwn σ0 vs = true) (hl : (x :: l).length ≤ seqLine)
    (h1 : asgT tg (.val x) (wipeR σ0 vs) = some σa) (h2 : evB C D' c ⟨σa, M⟩ = .ok (k, ⟨σb, Ma⟩)) (h3 : if k = true then ∃ y, evE C D' el ⟨σb, Ma⟩ = .ok (y, ⟨σc, Mb⟩) ∧ o = some y.fz else σc = σb ∧ Mb = Ma ∧ o = none) (h4 : wipeR σc vs = σ) (hw : wipeR σ vs = σ) (hb : backR σ0 σ vs = σ1)
    (ht : TurnsL C D' vs tg c el σ l Mb ys M') : evE C D' (.lc vs tg it c el) s = .ok (.mls (o.toList ++ ys), ⟨σ1, M'⟩) := by
  simp only [evE, hi, b2_k, hno, hl, and_self, if_true]
  cases k with
  | true =>
    rw [if_pos rfl] at h3
    obtain ⟨y, h3, rfl⟩ := h3
    simp only [lcL, h1, op_k, bd_k, h2, b2_k, h3, if_true, h4]
    rw [lcL_turns hw _ ht]
    simp only [b2_k, hb]
    rfl
  | false =>
    rw [if_neg Bool.false_ne_true] at h3
    obtain ⟨rfl, rfl, rfl⟩ := h3
    simp only [lcL, h1, op_k, bd_k, h2, b2_k, Bool.false_eq_true, if_false, h4]
    rw [lcL_turns hw _ ht]
    simp only [b2_k, hb]
    rfl
/-- what comes of a comprehension whose turns draw -/
inductive RelT (Q : D → Option D → Prop) : List D → List D → Prop
  | nil : RelT Q [] []
  | cons {x : D} {o : Option D} {l ys : List D} : Q x o → RelT Q l ys → RelT Q (x :: l) (o.toList ++ ys)
theorem turns_draw {C : Calls} {vs : List Nat} {tg : Tg} {c : B} {el : E} {σ : List Rv} {r : Mem} {Q : D → Option D → Prop} : ∀ {l : List D}, (∀ x, x ∈ l → ∀ M, Bx r M → ∃ o M', Q x o ∧ Bx r M' ∧ Turn1 C D' vs tg c el σ M x o M') →
    ∀ {M : Mem}, Bx r M → ∃ ys M', RelT Q l ys ∧ Bx r M' ∧ TurnsL C D' vs tg c el σ l M ys M'
  | [], _, M, hM => ⟨[], M, .nil, hM, .nil⟩
  | x :: l, h, M, hM => by
    obtain ⟨o, M1, hq, h1, t⟩ := h x List.mem_cons_self M hM
    obtain ⟨ys, M2, hr, h2, ts⟩ := turns_draw (l := l) (fun y hy => h y (List.mem_cons_of_mem _ hy)) h1
    exact ⟨_, M2, .cons hq hr, h2, .cons t ts⟩
theorem ev_lcD {C : Calls} {vs : List Nat} {tg : Tg} {it : I} {c : B} {el : E} {s : S} {σ : List Rv} {M r : Mem} {l : List D} {Q : D → Option D → Prop} (hi : evI C D' it s = .ok (l, ⟨σ, M⟩)) (hM : Bx r M) (hno : noOwn σ vs = true) (hl : l.length ≤ seqLine) (hw : wipeR σ vs = σ) (hb : backR σ σ vs = σ)
    (ht : ∀ x, x ∈ l → ∀ M, Bx r M → ∃ o M', Q x o ∧ Bx r M' ∧ Turn1 C D' vs tg c el σ M x o M') : ∃ ys M', RelT Q l ys ∧ Bx r M' ∧ evE C D' (.lc vs tg it c el) s = .ok (.mls ys, ⟨σ, M'⟩) := by
  obtain ⟨ys, M', hr, h2, ts⟩ := turns_draw ht hM
  exact ⟨ys, M', hr, h2, ev_lcT hi hno hl hw hb ts⟩
/-- the comprehension's own names are also the def's: they come back -/
theorem lcL_any {C : Calls} {vs : List Nat} {tg : Tg} {c : B} {el : E} {σ0 σ : List Rv} (h0 : wipeR σ0 vs = σ) (hw : wipeR σ vs = σ) {x : D} {l : List D} {M : Mem} {acc : List D} :
    lcL (fun x s => (opt (asgT tg (.val x) (wipeR s.σ vs))).bind fun σ => (evB C D' c { s with σ := σ }).b2 fun k s => if k = true then (evE C D' el s).b2 fun y s => .ok (some y.fz, { s with σ := wipeR s.σ vs }) else .ok (none, { s with σ := wipeR s.σ vs })) (x :: l) ⟨σ0, M⟩ acc =
    lcL (fun x s => (opt (asgT tg (.val x) (wipeR s.σ vs))).bind fun σ => (evB C D' c { s with σ := σ }).b2 fun k s => if k = true then (evE C D' el s).b2 fun y s => .ok (some y.fz, { s with σ := wipeR s.σ vs }) else .ok (none, { s with σ := wipeR s.σ vs })) (x :: l) ⟨σ, M⟩ acc := by
  simp only [lcL, h0, hw]
theorem ev_lcO {C : Calls} {vs : List Nat} {tg : Tg} {it : I} {c : B} {el : E} {s : S} {σ0 σ : List Rv} {M M' : Mem} {l ys : List D} (hi : evI C D' it s = .ok (l, ⟨σ0, M⟩)) (hno : noOwn σ0 vs = true) (hl : l.length ≤ seqLine) (h0 : wipeR σ0 vs = σ) (hw : wipeR σ vs = σ) (hb : backR σ0 σ vs = σ0) (hb0 : backR σ0 σ0 vs = σ0)
    (ht : TurnsL C D' vs tg c el σ l M ys M') : evE C D' (.lc vs tg it c el) s = .ok (.mls ys, ⟨σ0, M'⟩) := by
  simp only [evE, hi, b2_k, hno, hl, and_self, if_true]
  cases l with
  | nil =>
    cases ht
    simp only [lcL, b2_k, hb0]
  | cons x l =>
    rw [lcL_any h0 hw, lcL_turns hw [] ht]
    simp only [b2_k, hb, List.nil_append]
theorem ev_lcDO {C : Calls} {vs : List Nat} {tg : Tg} {it : I} {c : B} {el : E} {s : S} {σ0 σ : List Rv} {M r : Mem} {l : List D} {Q : D → Option D → Prop} (hi : evI C D' it s = .ok (l, ⟨σ0, M⟩)) (hM : Bx r M) (hno : noOwn σ0 vs = true) (hl : l.length ≤ seqLine) (h0 : wipeR σ0 vs = σ) (hw : wipeR σ vs = σ) (hb : backR σ0 σ vs = σ0) (hb0 : backR σ0 σ0 vs = σ0)
    (ht : ∀ x, x ∈ l → ∀ M, Bx r M → ∃ o M', Q x o ∧ Bx r M' ∧ Turn1 C D' vs tg c el σ M x o M') : ∃ ys M', RelT Q l ys ∧ Bx r M' ∧ evE C D' (.lc vs tg it c el) s = .ok (.mls ys, ⟨σ0, M'⟩) := by
  obtain ⟨ys, M', hr, h2, ts⟩ := turns_draw ht hM
  exact ⟨ys, M', hr, h2, ev_lcO hi hno hl h0 hw hb hb0 ts⟩
theorem RelT.sub {Q : D → Option D → Prop} (hq : ∀ x o, Q x o → o = none ∨ o = some x) : ∀ {l ys : List D}, RelT Q l ys → ys.Sublist l
  | _, _, .nil => List.Sublist.slnil
  | _, _, .cons (x := x) (o := o) h t => by
    rcases hq x o h with rfl | rfl
    · exact (RelT.sub hq t).cons x
    · exact (RelT.sub hq t).cons₂ x
inductive Fa2 {β γ : Type} (P : β → γ → Prop) : List β → List γ → Prop
  | nil : Fa2 P [] []
  | cons {b : β} {c : γ} {bs : List β} {cs : List γ} : P b c → Fa2 P bs cs → Fa2 P (b :: bs) (c :: cs)
theorem Fa2.len {β γ : Type} {P : β → γ → Prop} : ∀ {bs : List β} {cs : List γ}, Fa2 P bs cs → cs.length = bs.length
  | _, _, .nil => rfl
  | _, _, .cons _ t => by rw [List.length_cons, List.length_cons, Fa2.len t]
theorem Fa2.map_eq {β γ : Type} {f : γ → β} : ∀ {bs : List β} {cs : List γ}, Fa2 (fun b c => f c = b) bs cs → cs.map f = bs
  | _, _, .nil => rfl
  | _, _, .cons h t => by rw [List.map_cons, h, Fa2.map_eq t]
/-- each turn with a value: told by an encoding -/
theorem RelT.enc {β γ : Type} {Q : D → Option D → Prop} {e : β → D} {e' : γ → D} {P : β → γ → Prop} (hq : ∀ b o, Q (e b) o → ∃ c, P b c ∧ o = some (e' c)) : ∀ {bs : List β} {ys : List D}, RelT Q (bs.map e) ys → ∃ cs : List γ, ys = cs.map e' ∧ Fa2 P bs cs := by
  intro bs
  induction bs with
  | nil => intro ys h; cases h; exact ⟨[], rfl, .nil⟩
  | cons b bs ih =>
    intro ys h
    rw [List.map_cons] at h
    cases h with
    | cons h t =>
      obtain ⟨c, hc, rfl⟩ := hq b _ h
      obtain ⟨cs, rfl, f⟩ := ih t
      exact ⟨c :: cs, rfl, .cons hc f⟩
theorem RelT.len {Q : D → Option D → Prop} : ∀ {l ys : List D}, RelT Q l ys → ys.length ≤ l.length
  | _, _, .nil => Nat.le_refl _
  | _, _, .cons (x := x) (o := o) h t => by
    have := RelT.len t
    rw [List.length_append, List.length_cons]
    cases o <;> simp <;> omega
theorem RelT.all {Q : D → Option D → Prop} {P : D → Prop} (hq : ∀ x o, Q x o → ∀ y, o = some y → P y) : ∀ {l ys : List D}, RelT Q l ys → ∀ y ∈ ys, P y
  | _, _, .nil, y, h => by cases h
  | _, _, .cons (x := x) (o := o) h t, y, hy => by
    rcases List.mem_append.mp hy with hy | hy
    · cases o with
      | none => cases hy
      | some z =>
        have : y = z := by simpa using hy
        exact hq x _ h y (by rw [this])
    · exact RelT.all hq t y hy
/-! ### sorted ints -/
def sortI (l : List Int) : List Int := l.mergeSort fun a b => decide (a ≤ b)
theorem srt_ints (l : List Int) : srtL (l.map D.int) = (sortI l).map D.int := by
  unfold srtL sortI
  refine (List.map_mergeSort (f := D.int) (r := fun a b => decide (a ≤ b)) (s := PySem.W.dataLe false toPy) (l := l) fun a _ b _ => ?_).symm
  have := congrFun (congrFun (PySem.W.dataLe_int (fun i : Int => i)) a) b
  exact this.symm
theorem sortI_perm (l : List Int) : (sortI l).Perm l := List.mergeSort_perm _ _
theorem sortI_le (l : List Int) : (sortI l).Pairwise (· ≤ ·) := by
  have := List.pairwise_mergeSort (le := fun a b : Int => decide (a ≤ b)) (fun a b c h1 h2 => decide_eq_true (Int.le_trans (of_decide_eq_true h1) (of_decide_eq_true h2))) (fun a b => by
    rcases Int.le_total a b with h | h
    · simp [h]
    · simp [h]) l
  exact this.imp fun h => of_decide_eq_true h
theorem sortI_mem {l : List Int} {x : Int} : x ∈ sortI l ↔ x ∈ l := (sortI_perm l).mem_iff
theorem sortI_lt {l : List Int} (h : l.Nodup) : (sortI l).Pairwise (· < ·) := by
  have h1 : (sortI l).Nodup := (sortI_perm l).nodup_iff.mpr h
  have h2 := sortI_le l
  exact (h2.and h1).imp fun ⟨a, b⟩ => Int.lt_iff_le_and_ne.mpr ⟨a, b⟩
theorem lt_unique : ∀ {a b : List Int}, a.Pairwise (· < ·) → b.Pairwise (· < ·) → (∀ x, x ∈ a ↔ x ∈ b) → a = b
  | [], [], _, _, _ => rfl
  | [], y :: b, _, _, h => absurd ((h y).mpr List.mem_cons_self) (by simp)
  | x :: a, [], _, _, h => absurd ((h x).mp List.mem_cons_self) (by simp)
  | x :: a, y :: b, ha, hb, h => by
    rw [List.pairwise_cons] at ha hb
    have e : x = y := by
      have h1 := (h x).mp List.mem_cons_self
      have h2 := (h y).mpr List.mem_cons_self
      rcases List.mem_cons.mp h1 with e | h1
      · exact e
      · rcases List.mem_cons.mp h2 with e | h2
        · exact e.symm
        · have := ha.1 y h2
          have := hb.1 x h1
          omega
    subst e
    rw [lt_unique ha.2 hb.2 fun z => ?_]
    have hz := h z
    constructor
    · intro k
      rcases List.mem_cons.mp (hz.mp (List.mem_cons_of_mem _ k)) with e | k'
      · have := ha.1 z k; omega
      · exact k'
    · intro k
      rcases List.mem_cons.mp (hz.mpr (List.mem_cons_of_mem _ k)) with e | k'
      · have := hb.1 z k; omega
      · exact k'
theorem sortI_eq {a b : List Int} (ha : a.Nodup) (hb : b.Nodup) (h : ∀ x, x ∈ a ↔ x ∈ b) : sortI a = sortI b := lt_unique (sortI_lt ha) (sortI_lt hb) fun x => by rw [sortI_mem, sortI_mem, h]
/-! ### may it be sorted -/
theorem pyOks_all {l : List D} (h : ∀ x ∈ l, pyOk x = true) : pyOks l = true := by
  induction l with
  | nil => rfl
  | cons x l ih => show (pyOk x && pyOks l) = true; rw [h x List.mem_cons_self, ih fun y hy => h y (List.mem_cons_of_mem _ hy)]; rfl
theorem srtOk_of {l : List D} (h1 : ∀ x ∈ l, pyOk x = true ∧ (toPy x).depth ≤ 60) (h2 : (∀ x ∈ l, hdT x = true) ∨ ∀ x ∈ l, noT x = true) (h3 : ∀ x ∈ l, ∀ y ∈ l, PySem.W.alike (toPy x) (toPy y) = true) : srtOk l = true := by
  unfold srtOk
  rw [Bool.and_eq_true, Bool.and_eq_true, Bool.and_eq_true]
  refine ⟨⟨⟨pyOks_all fun x hx => (h1 x hx).1, ?_⟩, ?_⟩, ?_⟩
  · rw [Bool.or_eq_true, List.all_eq_true, List.all_eq_true]
    exact h2
  · unfold cmpAll
    rw [List.all_eq_true]
    intro x hx
    rw [List.all_eq_true]
    exact h3 x hx
  · rw [List.all_eq_true]
    exact fun x hx => decide_eq_true (h1 x hx).2
theorem srtOk_ints (l : List Int) : srtOk (l.map D.int) = true := by
  refine srtOk_of (fun x hx => ?_) (.inr fun x hx => ?_) fun x hx y hy => ?_
  · obtain ⟨i, _, rfl⟩ := List.mem_map.mp hx; exact ⟨rfl, Nat.zero_le _⟩
  · obtain ⟨i, _, rfl⟩ := List.mem_map.mp hx; rfl
  · obtain ⟨i, _, rfl⟩ := List.mem_map.mp hx; obtain ⟨j, _, rfl⟩ := List.mem_map.mp hy; rfl
theorem srt_lst {l : List D} (h : srtOk l = true) : srtD (.lst l) = some (srtL l) := by
  show (if (srtOk l || cmOk l) = true then _ else _) = _
  rw [h, Bool.true_or, if_pos rfl]
theorem srt_lstC {l : List D} (h : cmOk l = true) : srtD (.lst l) = some (srtL l) := by
  show (if (srtOk l || cmOk l) = true then _ else _) = _
  rw [h, Bool.or_true, if_pos rfl]
theorem srt_tup {l : List D} (h : srtOk l = true) : srtD (.tup l) = some (srtL l) := by
  show (if srtOk l = true then _ else _) = _
  rw [if_pos h]
theorem srt_perm (l : List D) : (srtL l).Perm l := List.mergeSort_perm _ _
theorem srt_len (l : List D) : (srtL l).length = l.length := (srt_perm l).length_eq
theorem srt_mem {l : List D} {x : D} : x ∈ srtL l ↔ x ∈ l := (srt_perm l).mem_iff
/-! ### lists of ints: empty or not, members -/
theorem canInts : ∀ l : List Int, PyData.canLayAll0 (toPys (l.map D.int)) = true
  | [] => rfl
  | x :: l => by show (true && PyData.canLayAll0 (toPys (l.map D.int))) = true; rw [canInts l]; rfl
theorem pyInts : ∀ l : List Int, pyOks (l.map D.int) = true
  | [] => rfl
  | x :: l => by show (true && pyOks (l.map D.int)) = true; rw [pyInts l]; rfl
theorem depInts : ∀ l : List Int, PyData.depthAll (toPys (l.map D.int)) = 0
  | [] => rfl
  | x :: l => by show Nat.max 0 (PyData.depthAll (toPys (l.map D.int))) = 0; rw [depInts l]; rfl
theorem shInts (l : List Int) : SeqAt.shaped (toPy (.lst (l.map D.int))) = true := by
  show (PyData.canLayAll0 (toPys (l.map D.int)) && decide ((PyData.list (toPys (l.map D.int))).depth ≤ 64)) = true
  rw [canInts, Bool.true_and]
  refine decide_eq_true ?_
  have : (PyData.list (toPys (l.map D.int))).depth = PyData.depthAll (toPys (l.map D.int)) + 1 := by simp [PyData.depth]
  rw [this, depInts]
  decide
theorem ne_nil (l : List Int) : cmpD .ne (.lst (l.map D.int)) (.lst []) = some (!l.isEmpty) := by
  show (eqD (.lst (l.map D.int)) (.lst [])).map _ = _
  have e : eqD (.lst (l.map D.int)) (.lst []) = if (pyOks (l.map D.int) && true && SeqAt.shaped (toPy (.lst (l.map D.int))) && SeqAt.shaped (toPy (.lst []))) = true then some (PyData.eqvAll (toPys (l.map D.int)) []) else none := rfl
  have z : (true && true && true && SeqAt.shaped (toPy (.lst []))) = true := rfl
  rw [e, pyInts, shInts, if_pos z]
  cases l <;> rfl
theorem flInts : ∀ l : List Int, flatDs (l.map D.int) = some (l.map L2.V.int)
  | [] => rfl
  | x :: l => by
    show (flatD (.int x)).bind _ = _
    show ((flatDs (l.map D.int)).map fun vs => L2.V.int x :: vs) = _
    rw [flInts l]
    rfl
theorem in_ints (x : Int) (l : List Int) : inSeq (.int x) (l.map D.int) = some (decide (x ∈ l)) := by
  show ((flatDs (l.map D.int)).map fun vs => L2.inV (.int x) vs) = _
  rw [flInts]
  show some (L2.inV (.int x) (l.map L2.V.int)) = _
  congr 1
  unfold L2.inV
  induction l with
  | nil => rfl
  | cons y l ih =>
    rw [List.map_cons, List.any_cons, ih]
    have : L2.eqV (.int y) (.int x) = decide (y = x) := rfl
    rw [this]
    by_cases h : y = x
    · subst h; simp
    · have h' : ¬ x = y := fun e => h e.symm
      rw [decide_eq_false h, Bool.false_or]
      simp [h']
theorem nin_lst (x : Int) (l : List Int) : cmpD .notin (.int x) (.lst (l.map D.int)) = some (!decide (x ∈ l)) := by
  show (inSeq (.int x) (l.map D.int)).map _ = _
  rw [in_ints]; rfl
theorem in_lst (x : Int) (l : List Int) : cmpD .isin (.int x) (.lst (l.map D.int)) = some (decide (x ∈ l)) := in_ints x l
end Ul


set_option Elab.async false
set_option linter.all false
set_option maxRecDepth 100000
namespace K00
open PySem Ev
def top (i : Nat) : Stmt := PySem.Challenge.pw_heapsparted_k00_names_and_terms.main.body.getD i (.Pass ⟨0, 0, 0, 0⟩)
def gtT : List (Str × Gv) := [
  (("is_integer" : Str), Gv.fn 0 1),
  (("is_word" : Str), Gv.fn 1 1),
  (("is_name" : Str), Gv.fn 2 1),
  (("is_pointer_name" : Str), Gv.fn 3 1),
  (("is_number_name" : Str), Gv.fn 4 1),
  (("is_hidden" : Str), Gv.fn 5 1),
  (("is_free" : Str), Gv.fn 6 1),
  (("is_pointer_term" : Str), Gv.fn 7 1),
  (("is_number_term" : Str), Gv.fn 8 1),
  (("term_order" : Str), Gv.fn 9 1),
  (("added_number" : Str), Gv.fn 10 2),
  (("name_in" : Str), Gv.fn 11 1),
  (("put_term" : Str), Gv.fn 12 2),
  (("fresh" : Str), Gv.fn 13 2),
  (("fresh_names" : Str), Gv.fn 14 3),
  (("_law_box" : Str), Gv.fn 15 1),
  (("_law_load" : Str), Gv.fn 16 1),
  (("_law_draw" : Str), Gv.fn 17 2),
  (("_law_same" : Str), Gv.fn 18 2),
  (("_law_spoilt" : Str), Gv.fn 19 2),
  (("_law_word" : Str), Gv.fn 20 1),
  (("_law_name" : Str), Gv.fn 21 2),
  (("_law_is_word" : Str), Gv.fn 22 1),
  (("_law_is_name" : Str), Gv.fn 23 1),
  (("_law_is_int" : Str), Gv.fn 24 1),
  (("_law_is_number_term" : Str), Gv.fn 25 1),
  (("_law_term" : Str), Gv.fn 26 1),
  (("_law_key" : Str), Gv.fn 27 1),
  (("_law_judged" : Str), Gv.fn 28 1),
  (("_law_errors" : Str), Gv.fn 29 0),
  (("law" : Str), Gv.fn 30 1),
  (("LETTERS" : Str), Gv.cst 0),
  (("SIGNS" : Str), Gv.cst 1),
  (("MOST_SIGNS" : Str), Gv.cst 2),
  (("all" : Str), Gv.blt),
  (("bool" : Str), Gv.blt),
  (("dict" : Str), Gv.blt),
  (("int" : Str), Gv.blt),
  (("isinstance" : Str), Gv.blt),
  (("len" : Str), Gv.blt),
  (("list" : Str), Gv.blt),
  (("range" : Str), Gv.blt),
  (("sorted" : Str), Gv.blt),
  (("str" : Str), Gv.blt),
  (("tuple" : Str), Gv.blt)]
def cstT : List D := [.str "abcdefghijklmnopqrstuvwxyz", .str "abcdefghijklmnopqrstuvwxyz0123456789", .int (6)]
/-- is_integer -/
def b0 : Ts := (.cons (.ret (.and (.isi (.v 0) .int) (.not (.isi (.v 0) .bool))))
    .nil)
def n0 : List Str := ["value"]
theorem c0 : cDef gtT false 0 [] n0 1 (top 4) = some ⟨1, 1, b0⟩ := by kernel_rfl
def b1_0 : E := (.cmp .isin (.v 1) (.cst 1))
def b1_1 : E := (.ga true [] (.nm 1) (.of (.v 0)) .yes b1_0)
/-- is_word -/
def b1 : Ts := (.cons (.ret (.and (.isi (.v 0) .str) (.and (.chn .le .le (.int 1) (.bi .len (.v 0)) (.cst 2)) (.and (.cmp .isin (.ix (.v 0) (.int 0)) (.cst 0)) b1_1))))
    .nil)
def n1 : List Str := ["value", "sign"]
theorem c1 : cDef gtT false 2 [] n1 1 (top 5) = some ⟨1, 2, b1⟩ := by kernel_rfl
/-- is_name -/
def b2 : Ts := (.cons (.iff (.not (.of (.isi (.v 0) .str))) (.cons (.ret (.bl false))
    .nil) .nil)
    (.cons (.asg (.nm 1) (.ife (.of (.cmp .eq (.sl (.v 0) .none (.int 1)) (.str "@"))) (.sl (.v 0) (.int 1) .none) (.v 0)))
    (.cons (.ret (.call 1 (.cons (.ife (.of (.cmp .eq (.sl (.v 1) .none (.int 1)) (.str "_"))) (.sl (.v 1) (.int 1) .none) (.v 1)) .nil)))
    .nil)))
def n2 : List Str := ["value", "plain"]
theorem c2 : cDef gtT false 0 [] n2 1 (top 6) = some ⟨1, 2, b2⟩ := by kernel_rfl
/-- is_pointer_name -/
def b3 : Ts := (.cons (.ret (.and (.call 2 (.cons (.v 0) .nil)) (.cmp .eq (.ix (.v 0) (.int 0)) (.str "@"))))
    .nil)
def n3 : List Str := ["value"]
theorem c3 : cDef gtT false 0 [] n3 1 (top 7) = some ⟨1, 1, b3⟩ := by kernel_rfl
/-- is_number_name -/
def b4 : Ts := (.cons (.ret (.and (.call 2 (.cons (.v 0) .nil)) (.cmp .ne (.ix (.v 0) (.int 0)) (.str "@"))))
    .nil)
def n4 : List Str := ["value"]
theorem c4 : cDef gtT false 0 [] n4 1 (top 8) = some ⟨1, 1, b4⟩ := by kernel_rfl
/-- is_hidden -/
def b5 : Ts := (.cons (.ret (.or (.cmp .eq (.sl (.v 0) .none (.int 1)) (.str "_")) (.cmp .eq (.sl (.v 0) .none (.int 2)) (.str "@_"))))
    .nil)
def n5 : List Str := ["name"]
theorem c5 : cDef gtT false 0 [] n5 1 (top 9) = some ⟨1, 1, b5⟩ := by kernel_rfl
/-- is_free -/
def b6 : Ts := (.cons (.ret (.and (.call 2 (.cons (.v 0) .nil)) (.not (.call 5 (.cons (.v 0) .nil)))))
    .nil)
def n6 : List Str := ["value"]
theorem c6 : cDef gtT false 0 [] n6 1 (top 10) = some ⟨1, 1, b6⟩ := by kernel_rfl
/-- is_pointer_term -/
def b7 : Ts := (.cons (.ret (.or (.call 3 (.cons (.v 0) .nil)) (.and (.call 0 (.cons (.v 0) .nil)) (.cmp .eq (.v 0) (.int 0)))))
    .nil)
def n7 : List Str := ["value"]
theorem c7 : cDef gtT false 0 [] n7 1 (top 11) = some ⟨1, 1, b7⟩ := by kernel_rfl
/-- is_number_term -/
def b8 : Ts := (.cons (.iff (.of (.call 0 (.cons (.v 0) .nil))) (.cons (.ret (.bl true))
    .nil) .nil)
    (.cons (.iff (.of (.isi (.v 0) .str)) (.cons (.ret (.and (.call 2 (.cons (.v 0) .nil)) (.not (.call 3 (.cons (.v 0) .nil)))))
    .nil) .nil)
    (.cons (.iff (.or (.not (.of (.isi (.v 0) .tuple))) (.or (.of (.cmp .ne (.bi .len (.v 0)) (.int 2))) (.not (.of (.isi (.ix (.v 0) (.int 0)) .str))))) (.cons (.ret (.bl false))
    .nil) .nil)
    (.cons (.ret (.and (.call 2 (.cons (.ix (.v 0) (.int 0)) .nil)) (.and (.not (.call 3 (.cons (.ix (.v 0) (.int 0)) .nil))) (.and (.call 0 (.cons (.ix (.v 0) (.int 1)) .nil)) (.cmp .ne (.ix (.v 0) (.int 1)) (.int 0))))))
    .nil))))
def n8 : List Str := ["value"]
theorem c8 : cDef gtT false 0 [] n8 1 (top 12) = some ⟨1, 1, b8⟩ := by kernel_rfl
/-- term_order -/
def b9 : Ts := (.cons (.iff (.of (.isi (.v 0) .tuple)) (.cons (.ret (.tup (.cons (.int 2) (.cons (.v 0) .nil))))
    .nil) .nil)
    (.cons (.ret (.ife (.of (.isi (.v 0) .str)) (.tup (.cons (.int 1) (.cons (.v 0) .nil))) (.tup (.cons (.int 0) (.cons (.v 0) .nil)))))
    .nil))
def n9 : List Str := ["term"]
theorem c9 : cDef gtT false 0 [] n9 1 (top 13) = some ⟨1, 1, b9⟩ := by kernel_rfl
/-- added_number -/
def b10 : Ts := (.cons (.iff (.of (.isi (.v 0) .tuple)) (.cons (.par 2 3 (.ix (.v 0) (.int 0)) (.bin .add (.ix (.v 0) (.int 1)) (.v 1)))
    .nil) (.cons (.iff (.of (.isi (.v 0) .str)) (.cons (.par 2 3 (.v 0) (.v 1))
    .nil) (.cons (.ret (.bin .add (.v 0) (.v 1)))
    .nil))
    .nil))
    (.cons (.ret (.ife (.of (.cmp .eq (.v 3) (.int 0))) (.v 2) (.tup (.cons (.v 2) (.cons (.v 3) .nil)))))
    .nil))
def n10 : List Str := ["term", "more", "name", "here"]
theorem c10 : cDef gtT false 0 [] n10 2 (top 14) = some ⟨2, 4, b10⟩ := by kernel_rfl
/-- name_in -/
def b11 : Ts := (.cons (.iff (.of (.isi (.v 0) .tuple)) (.cons (.ret (.ix (.v 0) (.int 0)))
    .nil) .nil)
    (.cons (.ret (.ife (.of (.isi (.v 0) .str)) (.v 0) .none))
    .nil))
def n11 : List Str := ["term"]
theorem c11 : cDef gtT false 0 [] n11 1 (top 15) = some ⟨1, 1, b11⟩ := by kernel_rfl
/-- put_term -/
def b12 : Ts := (.cons (.asg (.nm 2) (.call 11 (.cons (.v 0) .nil)))
    (.cons (.iff (.or (.of (.isn (.v 2))) (.of (.cmp .notin (.v 2) (.v 1)))) (.cons (.rtv 0)
    .nil) .nil)
    (.cons (.ret (.ife (.of (.isi (.v 0) .tuple)) (.call 10 (.cons (.ix (.v 1) (.v 2)) (.cons (.ix (.v 0) (.int 1)) .nil))) (.ix (.v 1) (.v 2))))
    .nil)))
def n12 : List Str := ["term", "pairs", "name"]
theorem c12 : cDef gtT false 0 [] n12 2 (top 16) = some ⟨2, 3, b12⟩ := by kernel_rfl
def b13_0 : Ts := (.cons (.aug 2 .add (.int 1))
    .nil)
/-- fresh -/
def b13 : Ts := (.cons (.par 2 3 (.int 0) (.ife (.of (.v 1)) (.str "@_u") (.str "_u")))
    (.cons (.wh (.of (.cmp .isin (.bin .add (.v 3) (.sti (.v 2))) (.v 0))) b13_0)
    (.cons (.ret (.bin .add (.v 3) (.sti (.v 2))))
    .nil)))
def n13 : List Str := ["names", "is_of_pointers", "number", "head"]
theorem c13 : cDef gtT false 0 [] n13 2 (top 17) = some ⟨2, 4, b13⟩ := by kernel_rfl
def b14_0 : Ts := (.cons (.app 3 (.call 13 (.cons (.bin .add (.bi .list (.v 2)) (.v 3)) (.cons (.v 1) .nil))))
    .nil)
def b14_1 : T := (.fr (.nm 4) (.rng1 (.v 0)) b14_0)
/-- fresh_names -/
def b14 : Ts := (.cons (.asg (.nm 3) (.rls .nil))
    (.cons b14_1
    (.cons (.rtv 3)
    .nil)))
def n14 : List Str := ["many", "is_of_pointers", "taken", "found", "turn"]
theorem c14 : cDef gtT false 0 ["found"] n14 3 (top 18) = some ⟨3, 5, b14⟩ := by kernel_rfl
/-- _law_box -/
def b15 : Ts := (.cons (.ret (.rls (.cons (.rlist (.sl (.v 0) .none (.int 63))) (.cons (.int 0) (.cons (.rcat (.int 4711) (.bi .len (.v 0))) .nil)))))
    .nil)
def n15 : List Str := ["script"]
theorem c15 : cDef gtT true 0 [] n15 1 (top 25) = some ⟨1, 1, b15⟩ := by kernel_rfl
/-- _law_load -/
def b16 : Ts := (.cons (.asg (.nm 1) (.ix (.v 0) (.int 0)))
    (.cons (.iff (.of (.cmp .gt (.bi .len (.v 1)) (.int 0))) (.cons (.asg (.nm 2) (.bi .int (.pop0 (.v 1))))
    (.cons (.asg (.nm 3) (.ife (.of (.cmp .ge (.v 2) (.int 0))) (.bin .mul (.int 2) (.v 2)) (.bin .sub (.bin .mul (.neg (.int 2)) (.v 2)) (.int 1))))
    (.cons (.iff (.of (.cmp .ge (.v 3) (.int 1000000000000000000))) (.cons (.rtv 3)
    .nil) .nil)
    (.cons (.setix (.v 0) (.int 2) (.bin .mod (.bi .int (.bin .add (.bin .add (.bin .mul (.ix (.v 0) (.int 2)) (.int 69621)) (.bin .mul (.v 3) (.int 48271))) (.int 11))) (.int 2147483647)))
    .nil)))) .nil)
    (.cons (.asg (.nm 4) (.bin .mod (.bi .int (.bin .add (.bin .mul (.ix (.v 0) (.int 2)) (.int 48271)) (.int 17))) (.int 2147483629)))
    (.cons (.asg (.nm 5) (.bin .mod (.bi .int (.bin .add (.bin .mul (.v 4) (.int 69621)) (.int 5))) (.int 2147483587)))
    (.cons (.setix (.v 0) (.int 2) (.bin .mod (.bi .int (.bin .add (.bin .mul (.v 5) (.int 40692)) (.int 3))) (.int 2147483563)))
    (.cons (.ret (.bin .add (.bin .add (.bin .mul (.v 4) (.int 4611686014132420609)) (.bin .mul (.v 5) (.int 2147483647))) (.ix (.v 0) (.int 2))))
    .nil))))))
def n16 : List Str := ["box", "cells", "cell", "size", "first", "second"]
theorem c16 : cDef gtT false 0 [] n16 1 (top 26) = some ⟨1, 6, b16⟩ := by kernel_rfl
/-- _law_draw -/
def b17 : Ts := (.cons (.iff (.of (.cmp .lt (.ix (.v 0) (.int 1)) (.v 1))) (.cons (.setix (.v 0) (.int 1) (.call 16 (.cons (.v 0) .nil)))
    .nil) .nil)
    (.cons (.asg (.nm 2) (.bin .mod (.bi .int (.ix (.v 0) (.int 1))) (.v 1)))
    (.cons (.setix (.v 0) (.int 1) (.bin .fdiv (.ix (.v 0) (.int 1)) (.v 1)))
    (.cons (.rtv 2)
    .nil))))
def n17 : List Str := ["box", "many", "digit"]
theorem c17 : cDef gtT false 0 [] n17 2 (top 27) = some ⟨2, 3, b17⟩ := by kernel_rfl
def b18_0 : E := (.call 18 (.cons (.ix (.v 0) (.v 2)) (.cons (.ix (.v 1) (.v 2)) .nil)))
def b18_1 : E := (.lc [2] (.nm 2) (.rng1 (.bi .len (.v 0))) .yes b18_0)
/-- _law_same -/
def b18 : Ts := (.cons (.iff (.or (.and (.of (.isi (.v 0) .tuple)) (.of (.isi (.v 1) .tuple))) (.and (.of (.isi (.v 0) .list)) (.of (.isi (.v 1) .list)))) (.cons (.ret (.and (.cmp .eq (.bi .len (.v 0)) (.bi .len (.v 1))) (.bi .all b18_1)))
    .nil) .nil)
    (.cons (.iff (.or (.of (.isi (.v 0) .bool)) (.of (.isi (.v 1) .bool))) (.cons (.ret (.and (.isi (.v 0) .bool) (.and (.isi (.v 1) .bool) (.cmp .eq (.v 0) (.v 1)))))
    .nil) .nil)
    (.cons (.iff (.or (.and (.of (.isi (.v 0) .int)) (.of (.isi (.v 1) .int))) (.and (.of (.isi (.v 0) .str)) (.of (.isi (.v 1) .str)))) (.cons (.ret (.cmp .eq (.v 0) (.v 1)))
    .nil) .nil)
    (.cons (.ret (.and (.isn (.v 0)) (.isn (.v 1))))
    .nil))))
def n18 : List Str := ["a", "b", "k"]
theorem c18 : cDef gtT false 0 [] n18 2 (top 28) = some ⟨2, 3, b18⟩ := by kernel_rfl
/-- _law_spoilt -/
def b19 : Ts := (.cons (.iff (.and (.of (.isi (.v 1) .tuple)) (.and (.of (.cmp .gt (.bi .len (.v 1)) (.int 0))) (.of (.cmp .gt (.call 17 (.cons (.v 0) (.cons (.int 4) .nil))) (.int 0))))) (.cons (.asg (.nm 2) (.call 17 (.cons (.v 0) (.cons (.bi .len (.v 1)) .nil))))
    (.cons (.iff (.of (.cmp .eq (.call 17 (.cons (.v 0) (.cons (.int 8) .nil))) (.int 0))) (.cons (.ret (.bin .add (.sl (.v 1) .none (.v 2)) (.sl (.v 1) (.bin .add (.v 2) (.int 1)) .none)))
    .nil) .nil)
    (.cons (.ret (.bin .add (.bin .add (.sl (.v 1) .none (.v 2)) (.tup (.cons (.call 19 (.cons (.v 0) (.cons (.ix (.v 1) (.v 2)) .nil))) .nil))) (.sl (.v 1) (.bin .add (.v 2) (.int 1)) .none)))
    .nil))) .nil)
    (.cons (.asg (.nm 3) (.lst (.cons .none (.cons (.tup .nil) (.cons (.int 0) (.cons (.int 1) (.cons (.bl true) (.cons (.bl false) (.cons (.str "a") (.cons (.str "@x") (.cons (.str "_n") (.cons (.neg (.int 1)) (.cons (.tup (.cons (.int 0) .nil)) (.cons (.tup (.cons (.str "n") (.cons (.int 1) .nil))) .nil))))))))))))))
    (.cons (.iff (.of (.isi (.v 1) .int)) (.cons (.asg (.nm 3) (.bin .add (.v 3) (.lst (.cons (.bin .add (.v 1) (.int 1)) (.cons (.bin .sub (.v 1) (.int 1)) (.cons (.cmp .eq (.v 1) (.int 1)) (.cons (.bin .add (.v 1) (.int 1)) .nil)))))))
    .nil) .nil)
    (.cons (.iff (.of (.isi (.v 1) .tuple)) (.cons (.asg (.nm 3) (.bin .add (.v 3) (.lst (.cons (.sl (.v 1) .none (.neg (.int 1))) (.cons (.bin .add (.v 1) (.sl (.v 1) (.neg (.int 1)) .none)) (.cons (.rev (.v 1)) (.cons (.bin .add (.v 1) (.tup (.cons (.tup (.cons (.int 0) (.cons (.int 0) .nil))) .nil))) (.cons (.tup (.cons (.v 1) .nil)) (.cons (.sl (.v 1) (.int 1) .none) .nil)))))))))
    .nil) .nil)
    (.cons (.ret (.ix (.v 3) (.call 17 (.cons (.v 0) (.cons (.bi .len (.v 3)) .nil)))))
    .nil)))))
def n19 : List Str := ["box", "value", "spot", "rows"]
theorem c19 : cDef gtT false 0 [] n19 2 (top 29) = some ⟨2, 4, b19⟩ := by kernel_rfl
/-- _law_word -/
def b20 : Ts := (.cons (.ret (.ix (.lst (.cons (.str "x") (.cons (.str "y") (.cons (.str "t") (.cons (.str "ab1") (.cons (.str "list") (.cons (.str "z9") (.cons (.str "abcdef") .nil)))))))) (.call 17 (.cons (.v 0) (.cons (.int 7) .nil)))))
    .nil)
def n20 : List Str := ["box"]
theorem c20 : cDef gtT false 0 [] n20 1 (top 30) = some ⟨1, 1, b20⟩ := by kernel_rfl
/-- _law_name -/
def b21 : Ts := (.cons (.ret (.bin .add (.bin .add (.ife (.of (.v 1)) (.str "@") (.str "")) (.ife (.of (.cmp .eq (.call 17 (.cons (.v 0) (.cons (.int 3) .nil))) (.int 0))) (.str "_") (.str ""))) (.call 20 (.cons (.v 0) .nil))))
    .nil)
def n21 : List Str := ["box", "is_of_pointers"]
theorem c21 : cDef gtT false 0 [] n21 2 (top 31) = some ⟨2, 2, b21⟩ := by kernel_rfl
def b22_0 : E := (.cmp .isin (.v 2) (.bin .add (.v 1) (.str "0123456789")))
def b22_1 : E := (.lc [2] (.nm 2) (.of (.v 0)) .yes b22_0)
/-- _law_is_word -/
def b22 : Ts := (.cons (.asg (.nm 1) (.str "abcdefghijklmnopqrstuvwxyz"))
    (.cons (.ret (.and (.isi (.v 0) .str) (.and (.chn .le .le (.int 1) (.bi .len (.v 0)) (.int 6)) (.and (.cmp .isin (.ix (.v 0) (.int 0)) (.v 1)) (.bi .all b22_1)))))
    .nil))
def n22 : List Str := ["value", "letters", "sign"]
theorem c22 : cDef gtT false 0 [] n22 1 (top 32) = some ⟨1, 3, b22⟩ := by kernel_rfl
/-- _law_is_name -/
def b23 : Ts := (.cons (.iff (.not (.of (.isi (.v 0) .str))) (.cons (.ret (.bl false))
    .nil) .nil)
    (.cons (.asg (.nm 1) (.ife (.of (.cmp .eq (.sl (.v 0) .none (.int 1)) (.str "@"))) (.sl (.v 0) (.int 1) .none) (.v 0)))
    (.cons (.ret (.call 22 (.cons (.ife (.of (.cmp .eq (.sl (.v 1) .none (.int 1)) (.str "_"))) (.sl (.v 1) (.int 1) .none) (.v 1)) .nil)))
    .nil)))
def n23 : List Str := ["value", "plain"]
theorem c23 : cDef gtT false 0 [] n23 1 (top 33) = some ⟨1, 2, b23⟩ := by kernel_rfl
/-- _law_is_int -/
def b24 : Ts := (.cons (.ret (.and (.isi (.v 0) .int) (.not (.isi (.v 0) .bool))))
    .nil)
def n24 : List Str := ["value"]
theorem c24 : cDef gtT false 0 [] n24 1 (top 34) = some ⟨1, 1, b24⟩ := by kernel_rfl
/-- _law_is_number_term -/
def b25 : Ts := (.cons (.iff (.of (.call 24 (.cons (.v 0) .nil))) (.cons (.ret (.bl true))
    .nil) .nil)
    (.cons (.iff (.of (.isi (.v 0) .tuple)) (.cons (.ret (.and (.cmp .eq (.bi .len (.v 0)) (.int 2)) (.and (.call 23 (.cons (.ix (.v 0) (.int 0)) .nil)) (.and (.cmp .ne (.ix (.ix (.v 0) (.int 0)) (.int 0)) (.str "@")) (.and (.call 24 (.cons (.ix (.v 0) (.int 1)) .nil)) (.cmp .ne (.ix (.v 0) (.int 1)) (.int 0)))))))
    .nil) .nil)
    (.cons (.ret (.and (.call 23 (.cons (.v 0) .nil)) (.cmp .ne (.ix (.v 0) (.int 0)) (.str "@"))))
    .nil)))
def n25 : List Str := ["value"]
theorem c25 : cDef gtT false 0 [] n25 1 (top 35) = some ⟨1, 1, b25⟩ := by kernel_rfl
/-- _law_term -/
def b26 : Ts := (.cons (.ret (.ix (.lst (.cons (.bin .sub (.call 17 (.cons (.v 0) (.cons (.int 9) .nil))) (.int 4)) (.cons (.call 21 (.cons (.v 0) (.cons (.bl false) .nil))) (.cons (.tup (.cons (.call 21 (.cons (.v 0) (.cons (.bl false) .nil))) (.cons (.ix (.lst (.cons (.neg (.int 3)) (.cons (.neg (.int 1)) (.cons (.int 1) (.cons (.int 2) (.cons (.int 7) .nil)))))) (.call 17 (.cons (.v 0) (.cons (.int 5) .nil)))) .nil))) .nil)))) (.call 17 (.cons (.v 0) (.cons (.int 3) .nil)))))
    .nil)
def n26 : List Str := ["box"]
theorem c26 : cDef gtT false 0 [] n26 1 (top 36) = some ⟨1, 1, b26⟩ := by kernel_rfl
/-- _law_key -/
def b27 : Ts := (.cons (.ret (.ife (.of (.isi (.v 0) .int)) (.tup (.cons (.int 0) (.cons (.v 0) (.cons (.int 0) .nil)))) (.ife (.of (.isi (.v 0) .str)) (.tup (.cons (.int 1) (.cons (.v 0) (.cons (.int 0) .nil)))) (.tup (.cons (.int 2) (.cons (.ix (.v 0) (.int 0)) (.cons (.ix (.v 0) (.int 1)) .nil)))))))
    .nil)
def n27 : List Str := ["term"]
theorem c27 : cDef gtT false 0 [] n27 1 (top 37) = some ⟨1, 1, b27⟩ := by kernel_rfl
/-- _law_judged -/
def b28 : Ts := (.cons (.par 1 2 (.call 23 (.cons (.v 0) .nil)) (.and (.call 23 (.cons (.v 0) .nil)) (.cmp .isin (.str "_") (.v 0))))
    (.cons (.asg (.nm 3) (.and (.v 1) (.cmp .eq (.ix (.v 0) (.int 0)) (.str "@"))))
    (.cons (.asg (.nm 4) (.tup (.cons (.call 24 (.cons (.v 0) .nil)) (.cons (.call 22 (.cons (.v 0) .nil)) (.cons (.v 1) (.cons (.v 3) (.cons (.and (.v 1) (.not (.v 3))) (.cons (.and (.v 1) (.not (.v 2))) (.cons (.or (.v 3) (.and (.call 24 (.cons (.v 0) .nil)) (.cmp .eq (.v 0) (.int 0)))) (.cons (.call 25 (.cons (.v 0) .nil)) .nil))))))))))
    (.cons (.asg (.nm 5) (.tup (.cons (.call 0 (.cons (.v 0) .nil)) (.cons (.call 1 (.cons (.v 0) .nil)) (.cons (.call 2 (.cons (.v 0) .nil)) (.cons (.call 3 (.cons (.v 0) .nil)) (.cons (.call 4 (.cons (.v 0) .nil)) (.cons (.call 6 (.cons (.v 0) .nil)) (.cons (.call 7 (.cons (.v 0) .nil)) (.cons (.call 8 (.cons (.v 0) .nil)) .nil))))))))))
    (.cons (.ret (.and (.call 18 (.cons (.v 5) (.cons (.v 4) .nil))) (.or (.not (.v 1)) (.call 18 (.cons (.call 5 (.cons (.v 0) .nil)) (.cons (.v 2) .nil))))))
    .nil)))))
def n28 : List Str := ["value", "name", "hidden", "pointer", "due", "told"]
theorem c28 : cDef gtT false 0 [] n28 1 (top 38) = some ⟨1, 6, b28⟩ := by kernel_rfl
/-- _law_errors -/
def b29 : Ts := (.cons (.ret (.bl true)) .nil)
def b30_0 : E := (.bin .add (.v 16) (.sti (.v 17)))
def b30_1 : E := (.lc [17] (.nm 17) (.rng1 (.int 20)) (.of (.cmp .notin (.bin .add (.v 16) (.sti (.v 17))) (.v 14))) b30_0)
def b30_2 : Ts := (.cons (.asg (.nm 11) b30_1)
    (.cons (.iff (.or (.not (.of (.call 18 (.cons (.call 13 (.cons (.v 14) (.cons (.v 15) .nil))) (.cons (.ix (.v 11) (.int 0)) .nil))))) (.not (.of (.call 18 (.cons (.call 14 (.cons (.int 3) (.cons (.v 15) (.cons (.v 14) .nil)))) (.cons (.sl (.v 11) .none (.int 3)) .nil)))))) (.cons (.ret (.bl false))
    .nil) .nil)
    .nil))
def b30_3 : T := (.fr (.tp (.cons (.nm 15) (.cons (.nm 16) .nil))) (.of (.tup (.cons (.tup (.cons (.bl true) (.cons (.str "@_u") .nil))) (.cons (.tup (.cons (.bl false) (.cons (.str "_u") .nil))) .nil)))) b30_2)
def b30_4 : E := (.bin .add (.ix (.tup (.cons (.str "@_u") (.cons (.str "_u") .nil))) (.call 17 (.cons (.v 1) (.cons (.int 2) .nil)))) (.sti (.call 17 (.cons (.v 1) (.cons (.int 5) .nil)))))
def b30_5 : E := (.lc [3] (.nm 3) (.rng1 (.int 6)) .yes b30_4)
def b30_6 : Ts := (.cons (.par 8 9 (.bin .sub (.call 17 (.cons (.v 1) (.cons (.int 7) .nil))) (.int 3)) (.ife (.of (.isi (.v 7) .int)) .none (.ife (.of (.isi (.v 7) .str)) (.v 7) (.ix (.v 7) (.int 0)))))
    (.cons (.asg (.nm 10) (.ife (.of (.isu (.v 7) .int .str)) (.int 0) (.ix (.v 7) (.int 1))))
    (.cons (.asg (.nm 11) (.ife (.of (.isi (.v 7) .int)) (.bin .add (.v 7) (.v 8)) (.ife (.of (.cmp .eq (.bin .add (.v 10) (.v 8)) (.int 0))) (.v 9) (.tup (.cons (.v 9) (.cons (.bin .add (.v 10) (.v 8)) .nil))))))
    (.cons (.iff (.or (.not (.of (.call 18 (.cons (.call 10 (.cons (.v 7) (.cons (.v 8) .nil))) (.cons (.v 11) .nil))))) (.not (.of (.call 18 (.cons (.call 11 (.cons (.v 7) .nil)) (.cons (.v 9) .nil)))))) (.cons (.ret (.bl false))
    .nil) .nil)
    (.cons (.asg (.nm 12) (.call 26 (.cons (.v 1) .nil)))
    (.cons (.asg (.nm 13) (.ife (.and (.of (.notn (.v 9))) (.of (.cmp .eq (.call 17 (.cons (.v 1) (.cons (.int 2) .nil))) (.int 0)))) (.dct (.lst (.cons (.tup (.cons (.v 9) (.cons (.v 12) .nil))) .nil))) (.dct (.lst (.cons (.tup (.cons (.str "zzz") (.cons (.v 12) .nil))) .nil)))))
    (.cons (.iff (.not (.of (.call 18 (.cons (.call 12 (.cons (.v 7) (.cons (.v 13) .nil))) (.cons (.ife (.of (.cmp .isin (.v 9) (.v 13))) (.call 10 (.cons (.ix (.v 13) (.v 9)) (.cons (.v 10) .nil))) (.v 7)) .nil))))) (.cons (.ret (.bl false))
    .nil) .nil)
    .nil)))))))
def b30_7 : T := (.fr (.nm 7) (.of (.v 5)) b30_6)
def b30_8 : E := (.tup (.cons (.call 27 (.cons (.v 7) .nil)) (.cons (.v 7) .nil)))
def b30_9 : E := (.lc [7] (.nm 7) (.of (.v 5)) .yes b30_8)
def b30_10 : E := (.v 7)
def b30_11 : E := (.lc [6, 7] (.tp (.cons (.nm 6) (.cons (.nm 7) .nil))) (.of (.srt b30_9)) .yes b30_10)
def b30_12 : E := (.call 26 (.cons (.v 1) .nil))
def b30_13 : E := (.lc [3] (.nm 3) (.rng1 (.int 8)) .yes b30_12)
def b30_14 : E := (.call 28 (.cons (.v 4) .nil))
def b30_15 : E := (.lc [4] (.nm 4) (.of (.v 2)) .yes b30_14)
def b30_16 : Ts := (.cons (.asg (.nm 2) (.bin .add (.v 2) (.lst (.cons (.call 21 (.cons (.v 1) (.cons (.cmp .eq (.call 17 (.cons (.v 1) (.cons (.int 2) .nil))) (.int 0)) .nil))) (.cons (.call 26 (.cons (.v 1) .nil)) (.cons (.call 19 (.cons (.v 1) (.cons (.call 26 (.cons (.v 1) .nil)) .nil))) .nil))))))
    .nil)
def b30_17 : T := (.fr (.nm 3) (.rng1 (.int 12)) b30_16)
/-- law -/
def b30 : Ts := (.cons (.asg (.nm 1) (.call 15 (.cons (.v 0) .nil)))
    (.cons (.iff (.not (.of (.call 29 .nil))) (.cons (.ret (.bl false))
    .nil) .nil)
    (.cons (.asg (.nm 2) (.lst (.cons (.str "") (.cons (.str "@") (.cons (.str "_") (.cons (.str "@_") (.cons (.str "@_x") (.cons (.str "_@x") (.cons (.str "@@x") (.cons (.str "__x") (.cons (.str "x_") (.cons (.str "X") (.cons (.str "1x") (.cons (.str "abcdefg") (.cons (.str "@abcdefg") (.cons (.str "@_abcdef") (.cons (.str "a1") (.cons (.str "x ") (.cons (.str "aB") (.cons (.str "a-") (.cons (.str "@aB") (.cons (.str "a b") (.cons (.str "x@") (.cons (.str "a_b") (.cons .none (.cons (.tup .nil) (.cons (.int 0) (.cons (.neg (.int 1)) (.cons (.int 5) (.cons (.bl true) (.cons (.bl false) (.cons (.tup (.cons (.str "n") (.cons (.int 0) .nil))) (.cons (.tup (.cons (.str "n") (.cons (.int 1) .nil))) (.cons (.tup (.cons (.str "@n") (.cons (.int 1) .nil))) (.cons (.tup (.cons (.str "n") (.cons (.bl true) .nil))) (.cons (.tup (.cons (.str "n") (.cons (.str "m") .nil))) (.cons (.tup (.cons (.int 1) (.cons (.str "n") .nil))) (.cons (.tup (.cons (.str "n") (.cons (.int 1) (.cons (.int 1) .nil)))) (.cons (.tup (.cons (.tup .nil) (.cons (.int 1) .nil))) (.cons (.tup (.cons (.str "_n") (.cons (.neg (.int 2)) .nil))) .nil))))))))))))))))))))))))))))))))))))))))
    (.cons b30_17
    (.cons (.iff (.not (.of (.bi .all b30_15))) (.cons (.ret (.bl false))
    .nil) .nil)
    (.cons (.asg (.nm 5) b30_13)
    (.cons (.iff (.not (.of (.call 18 (.cons (.srk (.v 5) 9) (.cons b30_11 .nil))))) (.cons (.ret (.bl false))
    .nil) .nil)
    (.cons b30_7
    (.cons (.asg (.nm 14) (.bin .add b30_5 (.lst (.cons (.str "@x") .nil))))
    (.cons b30_3
    (.cons (.ret (.and (.call 18 (.cons (.call 12 (.cons (.str "@x") (.cons (.dct (.lst (.cons (.tup (.cons (.str "@x") (.cons (.int 0) .nil))) .nil))) .nil))) (.cons (.int 0) .nil))) (.and (.call 18 (.cons (.call 11 (.cons (.int 0) .nil)) (.cons .none .nil))) (.call 18 (.cons (.call 13 (.cons (.tup .nil) (.cons (.bl true) .nil))) (.cons (.str "@_u0") .nil))))))
    .nil)))))))))))
def n30 : List Str := ["script", "box", "values", "turn", "value", "terms", "key", "term", "more", "name", "whole", "due", "other", "table", "taken", "is_of_pointers", "head", "k"]
theorem c30 : cDef gtT false 1 [] n30 1 (top 40) = some ⟨1, 18, b30⟩ := by kernel_rfl
def fds : List Fd := [⟨1, 1, b0⟩, ⟨1, 2, b1⟩, ⟨1, 2, b2⟩, ⟨1, 1, b3⟩, ⟨1, 1, b4⟩, ⟨1, 1, b5⟩, ⟨1, 1, b6⟩, ⟨1, 1, b7⟩, ⟨1, 1, b8⟩, ⟨1, 1, b9⟩, ⟨2, 4, b10⟩, ⟨1, 1, b11⟩, ⟨2, 3, b12⟩, ⟨2, 4, b13⟩, ⟨3, 5, b14⟩, ⟨1, 1, b15⟩, ⟨1, 6, b16⟩, ⟨2, 3, b17⟩, ⟨2, 3, b18⟩, ⟨2, 4, b19⟩, ⟨1, 1, b20⟩, ⟨2, 2, b21⟩, ⟨1, 3, b22⟩, ⟨1, 2, b23⟩, ⟨1, 1, b24⟩, ⟨1, 1, b25⟩, ⟨1, 1, b26⟩, ⟨1, 1, b27⟩, ⟨1, 6, b28⟩, ⟨0, 0, b29⟩, ⟨1, 18, b30⟩]
end K00


namespace K00
open PySem Ev
def dat : Nat → D := fun n => cstT.getD n .non
end K00


set_option Elab.async false
set_option linter.all false
set_option maxRecDepth 100000
set_option maxHeartbeats 4000000
namespace K00
open PySem Ev Ul
abbrev Rn (n f : Nat) (ds : List D) (M : Mem) : Res (Rv × Mem) := calls fds dat n f ds M
theorem bxs : Bxs fds 16 17 := ⟨rfl, rfl⟩
theorem draw (n : Nat) (k : Int) (h0 : 0 < k) (h1 : k < 1073741824) (cs : List Int) (d s : Int) (r : Mem) : ∃ (v : Int) (cs' : List Int) (d' s' : Int), 0 ≤ v ∧ v < k ∧ calls fds dat (n + 2) 17 [.ref 1, .int k] (BoxM cs d s r) = .ok (.val (.int v), BoxM cs' d' s' r) := law_draw bxs n k h0 h1 cs d s r
/-! ### tuples, exact or not -/
def asT : D → Option (List D)
  | .tup l => some l
  | .tpx l => some l
  | _ => none
section
variable {d : D} {l : List D} {M : Mem}
theorem at_dr (h : asT d = some l) : drD M d = .tup l := by cases d <;> first | (cases h; done) | (cases h; rfl)
theorem at_tu (h : asT d = some l) : isTy .tuple d = some true := by cases d <;> first | (cases h; done) | rfl
theorem at_st (h : asT d = some l) : isTy .str d = some false := by cases d <;> first | (cases h; done) | rfl
theorem at_in (h : asT d = some l) : isTy .int d = some false := by cases d <;> first | (cases h; done) | rfl
theorem at_bo (h : asT d = some l) : isTy .bool d = some false := by cases d <;> first | (cases h; done) | rfl
theorem at_it (h : asT d = some l) : itD d = some l := by cases d <;> first | (cases h; done) | (cases h; rfl)
end
/-- what is spoilt: ints, texts, tuples of such -/
def PI (m : Nat) : Nat → D → Prop
  | _, .int _ => True
  | _, .str x => x.length ≤ 100
  | e + 1, .tup l => l.length ≤ m ∧ ∀ x ∈ l, PI m e x
  | e + 1, .tpx l => l.length ≤ m ∧ ∀ x ∈ l, PI m e x
  | _, _ => False
/-- what it may become -/
def PV (m : Nat) : Nat → D → Prop
  | _, .non => True
  | _, .bl _ => True
  | _, .int _ => True
  | _, .str x => x.length ≤ 100
  | e + 1, .tup l => l.length ≤ m ∧ ∀ x ∈ l, PV m e x
  | e + 1, .tpx l => l.length ≤ m ∧ ∀ x ∈ l, PV m e x
  | _, _ => False
theorem PI.pv {m m' : Nat} (hm : m ≤ m') : ∀ (e e' : Nat) (d : D), e ≤ e' → PI m e d → PV m' e' d
  | _, 0, .int _, _, _ => trivial
  | _, _ + 1, .int _, _, _ => trivial
  | _, 0, .str _, _, h => by
    unfold PV; unfold PI at h; exact h
  | _, _ + 1, .str _, _, h => by unfold PV; unfold PI at h; exact h
  | e + 1, e' + 1, .tup l, k, h => ⟨Nat.le_trans h.1 hm, fun x hx => PI.pv hm e e' x (by omega) (h.2 x hx)⟩
  | e + 1, e' + 1, .tpx l, k, h => ⟨Nat.le_trans h.1 hm, fun x hx => PI.pv hm e e' x (by omega) (h.2 x hx)⟩
  | e + 1, 0, .tup l, k, _ => absurd k (by omega)
  | e + 1, 0, .tpx l, k, _ => absurd k (by omega)
  | 0, _, .tup l, _, h => h.elim
  | 0, _, .tpx l, _, h => h.elim
  | 0, _, .non, _, h => h.elim
  | _ + 1, _, .non, _, h => h.elim
  | 0, _, .bl _, _, h => h.elim
  | _ + 1, _, .bl _, _, h => h.elim
  | 0, _, .lst _, _, h => h.elim
  | _ + 1, _, .lst _, _, h => h.elim
  | 0, _, .dic _ _, _, h => h.elim
  | _ + 1, _, .dic _ _, _, h => h.elim
  | 0, _, .ref _, _, h => h.elim
  | _ + 1, _, .ref _, _, h => h.elim
theorem cut_mem {l : List D} {a b : Option Int} {x : D} (h : x ∈ cutD l a b) : x ∈ l := List.mem_of_mem_drop (List.mem_of_mem_take h)
theorem cut_len (l : List D) (a b : Option Int) : (cutD l a b).length ≤ l.length := by
  unfold cutD
  rw [List.length_take, List.length_drop]
  omega
theorem at_some {l : List D} {v : Int} (h0 : 0 ≤ v) (h1 : v < (l.length : Int)) : ∃ x, L2.atI l v = some x ∧ x ∈ l := by
  obtain ⟨k, rfl⟩ := nat_of h0
  have hk : k < l.length := by omega
  exact ⟨l[k], by rw [at_nat hk]; simp [hk], List.getElem_mem hk⟩
/-- the rows that are drawn from -/
def sp0 : List D := [.non, .tup [], .int 0, .int 1, .bl true, .bl false, .str "a", .str "@x", .str "_n", .int (-1), .tup [.int 0], .tup [.str "n", .int 1]]
theorem sp0_ok {m e : Nat} (hm : 2 ≤ m) : ∀ x ∈ sp0, PV m (e + 1) x := by
  intro x hx
  unfold sp0 at hx
  simp only [List.mem_cons, List.not_mem_nil, or_false] at hx
  rcases hx with rfl | rfl | rfl | rfl | rfl | rfl | rfl | rfl | rfl | rfl | rfl | rfl
  · trivial
  · exact ⟨Nat.zero_le _, fun x hx => by cases hx⟩
  · trivial
  · trivial
  · trivial
  · trivial
  · show ("a" : Str).length ≤ 100; decide
  · show ("@x" : Str).length ≤ 100; decide
  · show ("_n" : Str).length ≤ 100; decide
  · trivial
  · refine ⟨by show 1 ≤ m; omega, fun x hx => ?_⟩
    simp only [List.mem_cons, List.not_mem_nil, or_false] at hx
    subst hx
    cases e <;> trivial
  · refine ⟨hm, fun x hx => ?_⟩
    simp only [List.mem_cons, List.not_mem_nil, or_false] at hx
    rcases hx with rfl | rfl
    · cases e <;> (show ("n" : Str).length ≤ 100; decide)
    · cases e <;> trivial
def Drawn (n f : Nat) (ds : List D) (cs : List Int) (d s : Int) (r : Mem) (P : D → Prop) : Prop := ∃ (y : D) (cs' : List Int) (d' s' : Int), P y ∧ calls fds dat n f ds (BoxM cs d s r) = .ok (.val y, BoxM cs' d' s' r)
theorem box_len (cs : List Int) (d s : Int) (r : Mem) : (BoxM cs d s r).length = r.length + 1 + 1 := rfl
/-- the last part: a row drawn -/
theorem sp_end (n : Nat) (v : D) (x2 : Rv) (l : List D) (hl : 1 ≤ l.length ∧ l.length ≤ 100) (hr : ∀ x ∈ l, ∀ k, x ≠ .ref k) (cs : List Int) (d s : Int) (r : Mem) : ∃ (y : D) (cs' : List Int) (d' s' : Int), y ∈ l ∧
    outT (r.length + 1 + 1) (evSs (calls fds dat (n + 2)) dat (.cons (.ret (.ix (.v 3) (.call 17 (.cons (.v 0) (.cons (.bi .len (.v 3)) .nil))))) .nil) ⟨[.val (.ref 1), .val v, x2, .mls l], BoxM cs d s r⟩) = .ok (.val y, BoxM cs' d' s' r) := by
  obtain ⟨k, cs1, d1, s1, h0, h1, e⟩ := draw n (l.length : Int) (by omega) (by omega) cs d s r
  obtain ⟨x, e2, hx⟩ := at_some h0 h1
  refine ⟨x, cs1, d1, s1, hx, ?_⟩
  simp only [rel_bl, rel_int, rel_str, rel_non, rel_tup, rel_tpx, rel_lst, rel_dic, rel_mls, evSs, evS, evE, evEs, evB, evI, asgT, asgTs, rdV_k, rd_val, rd_mls, b2_k, bd_k, op_k, op_n, fz_val, fz_mls, bl_k, dr_int, dr_bl, dr_non, dr_str, dr_tup, dr_lst, dr_dic, dr_tpx, tru_bl, tru_lst, tru_tup, cm_lt, cm_le, cm_gt, cm_ge, cm_eqi, cm_eqs, cm_nei, cm_nes, bn_add, bn_addt, bn_addl, bn_sub, bn_mulR, bn_mulL, bn_div, bn_mod, bi_lent, bi_lenl, bi_tupt, bi_tupl, bi_listt, bi_listl, bi_int, bi_sum, bi_all, ix_t, ix_l, ix_s, pt_no, pt_i, no_none, no_int, no_v, no_bin, no_neg, sl_t, sl_l, List.map_cons, List.map_nil, List.length_cons, List.length_nil, List.replicate, List.cons_append, List.nil_append, List.getElem?_cons_zero, List.getElem?_cons_succ, List.set_cons_zero, List.set_cons_succ, Option.bind_some, Option.map_some, Option.bind_none, Option.map_none, Nat.reduceAdd, Nat.reduceSub, Nat.reduceLT, Nat.reduceLeDiff, ↓reduceIte, reduceCtorEq, Bool.false_eq_true, Bool.true_and, Bool.and_true, Bool.false_and, Bool.and_false, Bool.not_true, Bool.not_false, if_true, if_false, e, e2, out_ret, rel_nr (hr x hx)]
  unfold BoxM
  simp only [trim2]
end K00


set_option Elab.async false
set_option linter.all false
set_option maxRecDepth 100000
set_option maxHeartbeats 4000000
namespace K00
open PySem Ev Ul
def hdS : Ts → T
  | .cons t _ => t
  | .nil => .pass
def tlS : Ts → Ts
  | .cons _ t => t
  | .nil => .nil
theorem seq_c {C : Calls} {D' : Nat → D} {ts : Ts} {s s' : S} (h : evS C D' (hdS ts) s = .ok (.nx, s')) (hc : tlS ts ≠ .nil ∨ ts ≠ .nil) : evSs C D' ts s = evSs C D' (tlS ts) s' := by
  cases ts with
  | nil => rcases hc with h | h <;> exact absurd rfl h
  | cons t ts =>
    simp only [hdS] at h
    simp only [evSs, h, b2_k, tlS]
theorem ands (a b : Nat) : (a ≤ b) = (a ≤ b) := rfl
theorem lst12 : (12 : Nat) ≤ seqLine := by decide
theorem isI_i {i : Int} : isTy .int (.int i) = some true := rfl
theorem isT_i {i : Int} : isTy .tuple (.int i) = some false := rfl
theorem isI_s {x : Str} : isTy .int (.str x) = some false := rfl
theorem isT_s {x : Str} : isTy .tuple (.str x) = some false := rfl
/-- the rows for a tuple -/
def spT (v : D) (l : List D) : List D := [.tup (cutD l none (some (-1))), .tup (l ++ cutD l (some (-1)) none), .tup l.reverse, .tup (l ++ [.tup [.int 0, .int 0]]), .tup [v], .tup (cutD l (some 1) none)]
theorem cut_last (l : List D) : (cutD l (some (-1)) none).length ≤ 1 := by
  unfold cutD
  rw [List.length_take, List.length_drop]
  have : HT.sIx l.length 0 (some (-1)) + 1 ≥ l.length := by
    unfold HT.sIx
    simp only []
    split <;> omega
  omega
theorem pv_sub {m e : Nat} {l l' : List D} (hl : l'.length ≤ m) (hx : ∀ x ∈ l, PV m e x) (hs : ∀ x ∈ l', x ∈ l) : PV m (e + 1) (.tup l') := ⟨hl, fun x h => hx x (hs x h)⟩
theorem PV.succ {m : Nat} : ∀ (e : Nat) (d : D), PV m e d → PV m (e + 1) d
  | 0, .non, _ => trivial
  | _ + 1, .non, _ => trivial
  | 0, .bl _, _ => trivial
  | _ + 1, .bl _, _ => trivial
  | 0, .int _, _ => trivial
  | _ + 1, .int _, _ => trivial
  | 0, .str _, h => h
  | _ + 1, .str _, h => h
  | e + 1, .tup l, h => ⟨h.1, fun x hx => PV.succ e x (h.2 x hx)⟩
  | e + 1, .tpx l, h => ⟨h.1, fun x hx => PV.succ e x (h.2 x hx)⟩
  | 0, .tup _, h => h.elim
  | 0, .tpx _, h => h.elim
  | 0, .lst _, h => h.elim
  | _ + 1, .lst _, h => h.elim
  | 0, .dic _ _, h => h.elim
  | _ + 1, .dic _ _, h => h.elim
  | 0, .ref _, h => h.elim
  | _ + 1, .ref _, h => h.elim
theorem spT_ok {m e : Nat} {v : D} {l : List D} (hm : 2 ≤ m) (hv : asT v = some l) (hp : PV m (e + 1) v) : ∀ x ∈ spT v l, PV (m + 1) (e + 3) x := by
  have hl : l.length ≤ m ∧ ∀ x ∈ l, PV m e x := by
    cases v <;> first | (cases hv; done) | (cases hv; exact hp)
  have up : ∀ (e : Nat) (d : D), PV m e d → PV (m + 1) e d := fun e d h => by
    induction e generalizing d with
    | zero => cases d <;> first | exact h | trivial
    | succ e ih =>
      cases d <;> first | exact h | trivial | skip
      · exact ⟨Nat.le_succ_of_le h.1, fun x hx => ih x (h.2 x hx)⟩
      · exact ⟨Nat.le_succ_of_le h.1, fun x hx => ih x (h.2 x hx)⟩
  have hx : ∀ x ∈ l, PV (m + 1) (e + 2) x := fun x h => PV.succ _ _ (PV.succ _ _ (up _ _ (hl.2 x h)))
  have c1 := cut_last l
  intro x h
  unfold spT at h
  simp only [List.mem_cons, List.not_mem_nil, or_false] at h
  rcases h with rfl | rfl | rfl | rfl | rfl | rfl
  · exact pv_sub (by have := cut_len l none (some (-1)); omega) hx fun x => cut_mem
  · refine pv_sub (by rw [List.length_append]; omega) hx fun x h => (List.mem_append.mp h).elim id cut_mem
  · exact pv_sub (by rw [List.length_reverse]; omega) hx fun x h => List.mem_reverse.mp h
  · refine ⟨by rw [List.length_append]; show l.length + 1 ≤ m + 1; omega, fun x h => ?_⟩
    rcases List.mem_append.mp h with h | h
    · exact hx x h
    · simp only [List.mem_cons, List.not_mem_nil, or_false] at h
      subst h
      refine ⟨by show 2 ≤ m + 1; omega, fun x h => ?_⟩
      simp only [List.mem_cons, List.not_mem_nil, or_false] at h
      rcases h with rfl | rfl <;> trivial
  · refine ⟨by show 1 ≤ m + 1; omega, fun x h => ?_⟩
    simp only [List.mem_cons, List.not_mem_nil, or_false] at h
    subst h
    exact PV.succ _ _ (up _ _ hp)
  · exact pv_sub (by have := cut_len l (some 1) none; omega) hx fun x => cut_mem
theorem pv_nr {m : Nat} : ∀ (e : Nat) (x : D), PV m e x → ∀ k, x ≠ .ref k := fun e x h k z => by
  subst z
  cases e <;> exact h.elim
theorem sp_tail (n m e : Nat) (hm : 2 ≤ m) (hm2 : m ≤ 60) (v : D) (hv : PI m e v) (x2 : Rv) (cs : List Int) (d s : Int) (r : Mem) : ∃ (y : D) (cs' : List Int) (d' s' : Int), PV (m + 1) (e + 3) y ∧
    outT (r.length + 1 + 1) (evSs (calls fds dat (n + 2)) dat (tlS b19) ⟨[.val (.ref 1), .val v, x2, .un], BoxM cs d s r⟩) = .ok (.val y, BoxM cs' d' s' r) := by
  have hp : PV m e v := PI.pv (Nat.le_refl _) e e v (Nat.le_refl _) hv
  have s0 : ∀ x ∈ sp0, PV (m + 1) (e + 3) x := fun x h => PV.succ _ _ (PV.succ _ _ (sp0_ok (by omega) x h))
  have q1 : (1 : Nat) ≤ seqLine := by decide
  have q2 : (2 : Nat) ≤ seqLine := by decide
  have q4 : (4 : Nat) ≤ seqLine := by decide
  have q6 : (6 : Nat) ≤ seqLine := by decide
  have q0 : (0 : Nat) ≤ seqLine := by decide
  have q16 : (16 : Nat) ≤ seqLine := by decide
  have q18 : (18 : Nat) ≤ seqLine := by decide
  have tup : ∀ l, asT v = some l → PV m e v → (∃ e', e = e' + 1) → ∃ (y : D) (cs' : List Int) (d' s' : Int), PV (m + 1) (e + 3) y ∧
    outT (r.length + 1 + 1) (evSs (calls fds dat (n + 2)) dat (tlS b19) ⟨[.val (.ref 1), .val v, x2, .un], BoxM cs d s r⟩) = .ok (.val y, BoxM cs' d' s' r) := by
    rintro l ha hp ⟨e', rfl⟩
    have hl : l.length ≤ m := by cases v <;> first | (cases ha; done) | (cases ha; exact hp.1)
    obtain ⟨y, cs', d', s', hy, h⟩ := sp_end n v x2 (sp0 ++ spT v l) (by unfold sp0 spT; simp) (fun x h => pv_nr (e' + 1 + 3) x ((List.mem_append.mp h).elim (s0 x) fun h => PV.succ _ _ (spT_ok hm ha hp x h))) cs d s r
    refine ⟨y, cs', d', s', ?_, ?_⟩
    · rcases List.mem_append.mp hy with hy | hy
      · exact s0 y hy
      · exact PV.succ _ _ (spT_ok hm ha hp y hy)
    · rw [← h]
      have c1 := cut_last l
      have k1 : l.length + (cutD l (some (-1)) none).length ≤ seqLine := le_seq (by omega)
      have k2 : l.length + 1 ≤ seqLine := le_seq (by omega)
      have e1 : isTy .int v = some false := at_in ha
      have e2 : isTy .tuple v = some true := at_tu ha
      have e3 : ∀ M, drD M v = .tup l := fun M => at_dr ha
      unfold b19 tlS
      simp only [rel_bl, rel_int, rel_str, rel_non, rel_tup, rel_tpx, rel_lst, rel_dic, rel_mls, evSs, evS, evE, evEs, evB, evI, asgT, asgTs, rdV_k, rd_val, rd_mls, b2_k, bd_k, op_k, op_n, fz_val, fz_mls, bl_k, dr_int, dr_bl, dr_non, dr_str, dr_tup, dr_lst, dr_dic, dr_tpx, tru_bl, tru_lst, tru_tup, cm_lt, cm_le, cm_gt, cm_ge, cm_eqi, cm_eqs, cm_nei, cm_nes, bn_add, bn_addt, bn_addl, bn_sub, bn_mulR, bn_mulL, bn_div, bn_mod, bi_lent, bi_lenl, bi_tupt, bi_tupl, bi_listt, bi_listl, bi_int, bi_sum, bi_all, ix_t, ix_l, ix_s, pt_no, pt_i, no_none, no_int, no_v, no_bin, no_neg, sl_t, sl_l, List.map_cons, List.map_nil, List.length_cons, List.length_nil, List.replicate, List.cons_append, List.nil_append, List.getElem?_cons_zero, List.getElem?_cons_succ, List.set_cons_zero, List.set_cons_succ, Option.bind_some, Option.map_some, Option.bind_none, Option.map_none, Nat.reduceAdd, Nat.reduceSub, Nat.reduceLT, Nat.reduceLeDiff, ↓reduceIte, reduceCtorEq, Bool.false_eq_true, Bool.true_and, Bool.and_true, Bool.false_and, Bool.and_false, Bool.not_true, Bool.not_false, if_true, if_false, lst12, q0, q1, q2, q4, q6, q16, q18, e1, e2, e3, k1, k2, revD]
      rfl
  cases v with
  | int i =>
    obtain ⟨y, cs', d', s', hy, h⟩ := sp_end n (.int i) x2 (sp0 ++ [.int (i + 1), .int (i - 1), .bl (decide (i = 1)), .int (i + 1)]) (by unfold sp0; simp) (fun x h => (List.mem_append.mp h).elim (fun h => pv_nr (m := m + 1) (e + 3) x (s0 x h)) fun h => by
      simp only [List.mem_cons, List.not_mem_nil, or_false] at h
      rcases h with rfl | rfl | rfl | rfl <;> (intro k z; cases z)) cs d s r
    refine ⟨y, cs', d', s', ?_, ?_⟩
    · rcases List.mem_append.mp hy with hy | hy
      · exact s0 y hy
      · simp only [List.mem_cons, List.not_mem_nil, or_false] at hy
        rcases hy with rfl | rfl | rfl | rfl <;> trivial
    · rw [← h]
      unfold b19 tlS
      simp only [rel_bl, rel_int, rel_str, rel_non, rel_tup, rel_tpx, rel_lst, rel_dic, rel_mls, evSs, evS, evE, evEs, evB, evI, asgT, asgTs, rdV_k, rd_val, rd_mls, b2_k, bd_k, op_k, op_n, fz_val, fz_mls, bl_k, dr_int, dr_bl, dr_non, dr_str, dr_tup, dr_lst, dr_dic, dr_tpx, tru_bl, tru_lst, tru_tup, cm_lt, cm_le, cm_gt, cm_ge, cm_eqi, cm_eqs, cm_nei, cm_nes, bn_add, bn_addt, bn_addl, bn_sub, bn_mulR, bn_mulL, bn_div, bn_mod, bi_lent, bi_lenl, bi_tupt, bi_tupl, bi_listt, bi_listl, bi_int, bi_sum, bi_all, ix_t, ix_l, ix_s, pt_no, pt_i, no_none, no_int, no_v, no_bin, no_neg, sl_t, sl_l, List.map_cons, List.map_nil, List.length_cons, List.length_nil, List.replicate, List.cons_append, List.nil_append, List.getElem?_cons_zero, List.getElem?_cons_succ, List.set_cons_zero, List.set_cons_succ, Option.bind_some, Option.map_some, Option.bind_none, Option.map_none, Nat.reduceAdd, Nat.reduceSub, Nat.reduceLT, Nat.reduceLeDiff, ↓reduceIte, reduceCtorEq, Bool.false_eq_true, Bool.true_and, Bool.and_true, Bool.false_and, Bool.and_false, Bool.not_true, Bool.not_false, if_true, if_false, isI_i, isT_i, lst12, q0, q1, q2, q4, q16]
      rfl
  | str x =>
    obtain ⟨y, cs', d', s', hy, h⟩ := sp_end n (.str x) x2 sp0 (by decide) (fun x h => pv_nr (m := m + 1) (e + 3) x (s0 x h)) cs d s r
    refine ⟨y, cs', d', s', s0 y hy, ?_⟩
    rw [← h]
    unfold b19 tlS
    simp only [rel_bl, rel_int, rel_str, rel_non, rel_tup, rel_tpx, rel_lst, rel_dic, rel_mls, evSs, evS, evE, evEs, evB, evI, asgT, asgTs, rdV_k, rd_val, rd_mls, b2_k, bd_k, op_k, op_n, fz_val, fz_mls, bl_k, dr_int, dr_bl, dr_non, dr_str, dr_tup, dr_lst, dr_dic, dr_tpx, tru_bl, tru_lst, tru_tup, cm_lt, cm_le, cm_gt, cm_ge, cm_eqi, cm_eqs, cm_nei, cm_nes, bn_add, bn_addt, bn_addl, bn_sub, bn_mulR, bn_mulL, bn_div, bn_mod, bi_lent, bi_lenl, bi_tupt, bi_tupl, bi_listt, bi_listl, bi_int, bi_sum, bi_all, ix_t, ix_l, ix_s, pt_no, pt_i, no_none, no_int, no_v, no_bin, no_neg, sl_t, sl_l, List.map_cons, List.map_nil, List.length_cons, List.length_nil, List.replicate, List.cons_append, List.nil_append, List.getElem?_cons_zero, List.getElem?_cons_succ, List.set_cons_zero, List.set_cons_succ, Option.bind_some, Option.map_some, Option.bind_none, Option.map_none, Nat.reduceAdd, Nat.reduceSub, Nat.reduceLT, Nat.reduceLeDiff, ↓reduceIte, reduceCtorEq, Bool.false_eq_true, Bool.true_and, Bool.and_true, Bool.false_and, Bool.and_false, Bool.not_true, Bool.not_false, if_true, if_false, isI_s, isT_s, lst12, q0, q1, q2, q4]
    rfl
  | tup l => cases e with
    | zero => exact hv.elim
    | succ e => exact tup l rfl hp ⟨e, rfl⟩
  | tpx l => cases e with
    | zero => exact hv.elim
    | succ e => exact tup l rfl hp ⟨e, rfl⟩
  | non => cases e <;> exact hv.elim
  | bl _ => cases e <;> exact hv.elim
  | lst _ => cases e <;> exact hv.elim
  | dic _ _ => cases e <;> exact hv.elim
  | ref _ => cases e <;> exact hv.elim
end K00


set_option Elab.async false
set_option linter.all false
set_option maxRecDepth 100000
set_option maxHeartbeats 4000000
namespace K00
open PySem Ev Ul
theorem pi_tup {m e : Nat} {v : D} {l : List D} (ha : asT v = some l) (h : PI m e v) : l.length ≤ m ∧ ∃ e', e = e' + 1 ∧ ∀ x ∈ l, PI m e' x := by
  cases e with
  | zero => cases v <;> first | (cases ha; done) | exact h.elim
  | succ e => cases v <;> first | (cases ha; done) | (cases ha; exact ⟨h.1, e, rfl, h.2⟩)
theorem pv_up {m : Nat} : ∀ (e : Nat) (d : D), PV m e d → PV (m + 1) e d := fun e d h => by
  induction e generalizing d with
  | zero => cases d <;> first | exact h | trivial
  | succ e ih =>
    cases d <;> first | exact h | trivial | skip
    · exact ⟨Nat.le_succ_of_le h.1, fun x hx => ih x (h.2 x hx)⟩
    · exact ⟨Nat.le_succ_of_le h.1, fun x hx => ih x (h.2 x hx)⟩
theorem pos_dec {n : Nat} (h : 1 ≤ n) : decide ((0 : Int) < (n : Int)) = true := decide_eq_true (by omega)
theorem spoilt (m : Nat) (hm : 2 ≤ m) (hm2 : m ≤ 60) : ∀ (e n : Nat) (v : D), PI m e v → ∀ (cs : List Int) (d s : Int) (r : Mem), Drawn (n + e + 3) 19 [.ref 1, v] cs d s r (PV (m + 1) (e + 3)) := by
  intro e
  induction e with
  | zero =>
    intro n v hv cs d s r
    obtain ⟨y, cs', d', s', hy, h⟩ := sp_tail n m 0 hm hm2 v hv .un cs d s r
    refine ⟨y, cs', d', s', hy, ?_⟩
    show Ul.R fds dat _ _ _ _ = _
    rw [r_step (n := n + 2) (f := 19) (ar := 2) (ns := 4) (b := b19) rfl rfl, ← h, box_len]
    congr 1
    refine seq_c ?_ (.inr (by unfold b19; intro z; cases z))
    unfold b19
    cases v <;> first | exact hv.elim | skip
    · simp only [hdS, rel_bl, rel_int, rel_str, rel_non, rel_tup, rel_tpx, rel_lst, rel_dic, rel_mls, evSs, evS, evE, evEs, evB, evI, asgT, asgTs, rdV_k, rd_val, rd_mls, b2_k, bd_k, op_k, op_n, fz_val, fz_mls, bl_k, dr_int, dr_bl, dr_non, dr_str, dr_tup, dr_lst, dr_dic, dr_tpx, tru_bl, tru_lst, tru_tup, cm_lt, cm_le, cm_gt, cm_ge, cm_eqi, cm_eqs, cm_nei, cm_nes, bn_add, bn_addt, bn_addl, bn_sub, bn_mulR, bn_mulL, bn_div, bn_mod, bi_lent, bi_lenl, bi_tupt, bi_tupl, bi_listt, bi_listl, bi_int, bi_sum, bi_all, ix_t, ix_l, ix_s, pt_no, pt_i, no_none, no_int, no_v, no_bin, no_neg, sl_t, sl_l, List.map_cons, List.map_nil, List.length_cons, List.length_nil, List.replicate, List.cons_append, List.nil_append, List.getElem?_cons_zero, List.getElem?_cons_succ, List.set_cons_zero, List.set_cons_succ, Option.bind_some, Option.map_some, Option.bind_none, Option.map_none, Nat.reduceAdd, Nat.reduceSub, Nat.reduceLT, Nat.reduceLeDiff, ↓reduceIte, reduceCtorEq, Bool.false_eq_true, Bool.true_and, Bool.and_true, Bool.false_and, Bool.and_false, Bool.not_true, Bool.not_false, if_true, if_false, isT_i]
    · simp only [hdS, rel_bl, rel_int, rel_str, rel_non, rel_tup, rel_tpx, rel_lst, rel_dic, rel_mls, evSs, evS, evE, evEs, evB, evI, asgT, asgTs, rdV_k, rd_val, rd_mls, b2_k, bd_k, op_k, op_n, fz_val, fz_mls, bl_k, dr_int, dr_bl, dr_non, dr_str, dr_tup, dr_lst, dr_dic, dr_tpx, tru_bl, tru_lst, tru_tup, cm_lt, cm_le, cm_gt, cm_ge, cm_eqi, cm_eqs, cm_nei, cm_nes, bn_add, bn_addt, bn_addl, bn_sub, bn_mulR, bn_mulL, bn_div, bn_mod, bi_lent, bi_lenl, bi_tupt, bi_tupl, bi_listt, bi_listl, bi_int, bi_sum, bi_all, ix_t, ix_l, ix_s, pt_no, pt_i, no_none, no_int, no_v, no_bin, no_neg, sl_t, sl_l, List.map_cons, List.map_nil, List.length_cons, List.length_nil, List.replicate, List.cons_append, List.nil_append, List.getElem?_cons_zero, List.getElem?_cons_succ, List.set_cons_zero, List.set_cons_succ, Option.bind_some, Option.map_some, Option.bind_none, Option.map_none, Nat.reduceAdd, Nat.reduceSub, Nat.reduceLT, Nat.reduceLeDiff, ↓reduceIte, reduceCtorEq, Bool.false_eq_true, Bool.true_and, Bool.and_true, Bool.false_and, Bool.and_false, Bool.not_true, Bool.not_false, if_true, if_false, isT_s]
  | succ e ih =>
    intro n v hv cs d s r
    have tail : ∀ (cs : List Int) (d s : Int), ∃ (y : D) (cs' : List Int) (d' s' : Int), PV (m + 1) (e + 1 + 3) y ∧
      outT (r.length + 1 + 1) (evSs (calls fds dat (n + (e + 1) + 2)) dat (tlS b19) ⟨[.val (.ref 1), .val v, .un, .un], BoxM cs d s r⟩) = .ok (.val y, BoxM cs' d' s' r) := fun cs d s => sp_tail (n + (e + 1)) m (e + 1) hm hm2 v hv .un cs d s r
    have go : ∀ (cs1 : List Int) (d1 s1 : Int), evS (calls fds dat (n + (e + 1) + 2)) dat (hdS b19) ⟨[.val (.ref 1), .val v, .un, .un], BoxM cs d s r⟩ = .ok (.nx, ⟨[.val (.ref 1), .val v, .un, .un], BoxM cs1 d1 s1 r⟩) → Drawn (n + (e + 1) + 3) 19 [.ref 1, v] cs d s r (PV (m + 1) (e + 1 + 3)) := by
      intro cs1 d1 s1 hh
      obtain ⟨y, cs', d', s', hy, h⟩ := tail cs1 d1 s1
      refine ⟨y, cs', d', s', hy, ?_⟩
      show Ul.R fds dat _ _ _ _ = _
      rw [r_step (n := n + (e + 1) + 2) (f := 19) (ar := 2) (ns := 4) (b := b19) rfl rfl, ← h, box_len]
      congr 1
      exact seq_c hh (.inr (by unfold b19; intro z; cases z))
    cases ha : asT v with
    | none =>
      refine go cs d s ?_
      unfold b19
      cases v <;> first | exact hv.elim | (cases ha; done) | skip
      · simp only [hdS, rel_bl, rel_int, rel_str, rel_non, rel_tup, rel_tpx, rel_lst, rel_dic, rel_mls, evSs, evS, evE, evEs, evB, evI, asgT, asgTs, rdV_k, rd_val, rd_mls, b2_k, bd_k, op_k, op_n, fz_val, fz_mls, bl_k, dr_int, dr_bl, dr_non, dr_str, dr_tup, dr_lst, dr_dic, dr_tpx, tru_bl, tru_lst, tru_tup, cm_lt, cm_le, cm_gt, cm_ge, cm_eqi, cm_eqs, cm_nei, cm_nes, bn_add, bn_addt, bn_addl, bn_sub, bn_mulR, bn_mulL, bn_div, bn_mod, bi_lent, bi_lenl, bi_tupt, bi_tupl, bi_listt, bi_listl, bi_int, bi_sum, bi_all, ix_t, ix_l, ix_s, pt_no, pt_i, no_none, no_int, no_v, no_bin, no_neg, sl_t, sl_l, List.map_cons, List.map_nil, List.length_cons, List.length_nil, List.replicate, List.cons_append, List.nil_append, List.getElem?_cons_zero, List.getElem?_cons_succ, List.set_cons_zero, List.set_cons_succ, Option.bind_some, Option.map_some, Option.bind_none, Option.map_none, Nat.reduceAdd, Nat.reduceSub, Nat.reduceLT, Nat.reduceLeDiff, ↓reduceIte, reduceCtorEq, Bool.false_eq_true, Bool.true_and, Bool.and_true, Bool.false_and, Bool.and_false, Bool.not_true, Bool.not_false, if_true, if_false, isT_i]
      · simp only [hdS, rel_bl, rel_int, rel_str, rel_non, rel_tup, rel_tpx, rel_lst, rel_dic, rel_mls, evSs, evS, evE, evEs, evB, evI, asgT, asgTs, rdV_k, rd_val, rd_mls, b2_k, bd_k, op_k, op_n, fz_val, fz_mls, bl_k, dr_int, dr_bl, dr_non, dr_str, dr_tup, dr_lst, dr_dic, dr_tpx, tru_bl, tru_lst, tru_tup, cm_lt, cm_le, cm_gt, cm_ge, cm_eqi, cm_eqs, cm_nei, cm_nes, bn_add, bn_addt, bn_addl, bn_sub, bn_mulR, bn_mulL, bn_div, bn_mod, bi_lent, bi_lenl, bi_tupt, bi_tupl, bi_listt, bi_listl, bi_int, bi_sum, bi_all, ix_t, ix_l, ix_s, pt_no, pt_i, no_none, no_int, no_v, no_bin, no_neg, sl_t, sl_l, List.map_cons, List.map_nil, List.length_cons, List.length_nil, List.replicate, List.cons_append, List.nil_append, List.getElem?_cons_zero, List.getElem?_cons_succ, List.set_cons_zero, List.set_cons_succ, Option.bind_some, Option.map_some, Option.bind_none, Option.map_none, Nat.reduceAdd, Nat.reduceSub, Nat.reduceLT, Nat.reduceLeDiff, ↓reduceIte, reduceCtorEq, Bool.false_eq_true, Bool.true_and, Bool.and_true, Bool.false_and, Bool.and_false, Bool.not_true, Bool.not_false, if_true, if_false, isT_s]
    | some l =>
      obtain ⟨hl, e', he, hx⟩ := pi_tup ha hv
      cases he
      have t2 : isTy .tuple v = some true := at_tu ha
      have t3 : ∀ M, drD M v = .tup l := fun M => at_dr ha
      by_cases hn : l.length = 0
      · refine go cs d s ?_
        unfold b19
        have : l = [] := List.length_eq_zero_iff.mp hn
        subst this
        simp only [hdS, rel_bl, rel_int, rel_str, rel_non, rel_tup, rel_tpx, rel_lst, rel_dic, rel_mls, evSs, evS, evE, evEs, evB, evI, asgT, asgTs, rdV_k, rd_val, rd_mls, b2_k, bd_k, op_k, op_n, fz_val, fz_mls, bl_k, dr_int, dr_bl, dr_non, dr_str, dr_tup, dr_lst, dr_dic, dr_tpx, tru_bl, tru_lst, tru_tup, cm_lt, cm_le, cm_gt, cm_ge, cm_eqi, cm_eqs, cm_nei, cm_nes, bn_add, bn_addt, bn_addl, bn_sub, bn_mulR, bn_mulL, bn_div, bn_mod, bi_lent, bi_lenl, bi_tupt, bi_tupl, bi_listt, bi_listl, bi_int, bi_sum, bi_all, ix_t, ix_l, ix_s, pt_no, pt_i, no_none, no_int, no_v, no_bin, no_neg, sl_t, sl_l, List.map_cons, List.map_nil, List.length_cons, List.length_nil, List.replicate, List.cons_append, List.nil_append, List.getElem?_cons_zero, List.getElem?_cons_succ, List.set_cons_zero, List.set_cons_succ, Option.bind_some, Option.map_some, Option.bind_none, Option.map_none, Nat.reduceAdd, Nat.reduceSub, Nat.reduceLT, Nat.reduceLeDiff, ↓reduceIte, reduceCtorEq, Bool.false_eq_true, Bool.true_and, Bool.and_true, Bool.false_and, Bool.and_false, Bool.not_true, Bool.not_false, if_true, if_false, t2, t3, Int.ofNat_zero, Int.lt_irrefl, decide_false]
      · obtain ⟨v1, cs1, d1, s1, h10, h11, e1⟩ := draw (n + (e + 1)) 4 (by decide) (by decide) cs d s r
        have hp := pos_dec (n := l.length) (by omega)
        by_cases hz : 0 < v1
        · obtain ⟨v2, cs2, d2, s2, h20, h21, e2⟩ := draw (n + (e + 1)) (l.length : Int) (by omega) (by omega) cs1 d1 s1 r
          obtain ⟨v3, cs3, d3, s3, h30, h31, e3⟩ := draw (n + (e + 1)) 8 (by decide) (by decide) cs2 d2 s2 r
          obtain ⟨k, rfl⟩ := nat_of h20
          have c1 : cutD l none (some (k : Int)) = l.take k := cut_take l k
          have c2 : cutD l (some ((k : Int) + 1)) none = l.drop (k + 1) := by
            rw [show ((k : Int) + 1) = ((k + 1 : Nat) : Int) by omega]
            exact cut_drop l (k + 1)
          have kb1 : (l.take k).length + (l.drop (k + 1)).length ≤ seqLine := le_seq (by rw [List.length_take, List.length_drop]; omega)
          by_cases h3 : v3 = 0
          · subst h3
            refine ⟨.tup (l.take k ++ l.drop (k + 1)), cs3, d3, s3, ?_, ?_⟩
            · refine ⟨by rw [List.length_append, List.length_take, List.length_drop]; omega, fun x h => ?_⟩
              have hm : x ∈ l := (List.mem_append.mp h).elim List.mem_of_mem_take List.mem_of_mem_drop
              exact PI.pv (by omega) e (e + 3) x (by omega) (hx x hm)
            · show Ul.R fds dat _ _ _ _ = _
              rw [r_step (n := n + (e + 1) + 2) (f := 19) (ar := 2) (ns := 4) (b := b19) rfl rfl, box_len]
              unfold b19
              simp only [rel_bl, rel_int, rel_str, rel_non, rel_tup, rel_tpx, rel_lst, rel_dic, rel_mls, evSs, evS, evE, evEs, evB, evI, asgT, asgTs, rdV_k, rd_val, rd_mls, b2_k, bd_k, op_k, op_n, fz_val, fz_mls, bl_k, dr_int, dr_bl, dr_non, dr_str, dr_tup, dr_lst, dr_dic, dr_tpx, tru_bl, tru_lst, tru_tup, cm_lt, cm_le, cm_gt, cm_ge, cm_eqi, cm_eqs, cm_nei, cm_nes, bn_add, bn_addt, bn_addl, bn_sub, bn_mulR, bn_mulL, bn_div, bn_mod, bi_lent, bi_lenl, bi_tupt, bi_tupl, bi_listt, bi_listl, bi_int, bi_sum, bi_all, ix_t, ix_l, ix_s, pt_no, pt_i, no_none, no_int, no_v, no_bin, no_neg, sl_t, sl_l, List.map_cons, List.map_nil, List.length_cons, List.length_nil, List.replicate, List.cons_append, List.nil_append, List.getElem?_cons_zero, List.getElem?_cons_succ, List.set_cons_zero, List.set_cons_succ, Option.bind_some, Option.map_some, Option.bind_none, Option.map_none, Nat.reduceAdd, Nat.reduceSub, Nat.reduceLT, Nat.reduceLeDiff, ↓reduceIte, reduceCtorEq, Bool.false_eq_true, Bool.true_and, Bool.and_true, Bool.false_and, Bool.and_false, Bool.not_true, Bool.not_false, if_true, if_false, t2, t3, hp, hz, e1, e2, e3, c1, c2, kb1, decide_true, out_ret]
              unfold BoxM
              simp only [trim2]
          · have hk : k < l.length := by omega
            obtain ⟨y, cs4, d4, s4, hy, e4⟩ := ih n l[k] (hx _ (List.getElem_mem hk)) cs3 d3 s3 r
            have ea : L2.atI l (k : Int) = some l[k] := by rw [at_nat hk]; simp [hk]
            have en : n + (e + 1) + 2 = n + e + 3 := by omega
            have q1 : (1 : Nat) ≤ seqLine := by decide
            have kb2 : (l.take k).length + 1 ≤ seqLine := le_seq (by rw [List.length_take]; omega)
            have kb3 : (l.take k ++ [y]).length + (l.drop (k + 1)).length ≤ seqLine := le_seq (by rw [List.length_append, List.length_take, List.length_drop]; simp; omega)
            have hne : decide (v3 = 0) = false := decide_eq_false h3
            refine ⟨.tup (l.take k ++ [y] ++ l.drop (k + 1)), cs4, d4, s4, ?_, ?_⟩
            · refine ⟨by rw [List.length_append, List.length_append, List.length_take, List.length_drop]; simp; omega, fun x h => ?_⟩
              rcases List.mem_append.mp h with h | h
              · rcases List.mem_append.mp h with h | h
                · exact PI.pv (by omega) e (e + 3) x (by omega) (hx x (List.mem_of_mem_take h))
                · rw [List.mem_singleton] at h
                  subst h
                  exact hy
              · exact PI.pv (by omega) e (e + 3) x (by omega) (hx x (List.mem_of_mem_drop h))
            · show Ul.R fds dat _ _ _ _ = _
              rw [r_step (n := n + (e + 1) + 2) (f := 19) (ar := 2) (ns := 4) (b := b19) rfl rfl, box_len]
              rw [← en] at e4
              unfold b19
              simp only [rel_bl, rel_int, rel_str, rel_non, rel_tup, rel_tpx, rel_lst, rel_dic, rel_mls, evSs, evS, evE, evEs, evB, evI, asgT, asgTs, rdV_k, rd_val, rd_mls, b2_k, bd_k, op_k, op_n, fz_val, fz_mls, bl_k, dr_int, dr_bl, dr_non, dr_str, dr_tup, dr_lst, dr_dic, dr_tpx, tru_bl, tru_lst, tru_tup, cm_lt, cm_le, cm_gt, cm_ge, cm_eqi, cm_eqs, cm_nei, cm_nes, bn_add, bn_addt, bn_addl, bn_sub, bn_mulR, bn_mulL, bn_div, bn_mod, bi_lent, bi_lenl, bi_tupt, bi_tupl, bi_listt, bi_listl, bi_int, bi_sum, bi_all, ix_t, ix_l, ix_s, pt_no, pt_i, no_none, no_int, no_v, no_bin, no_neg, sl_t, sl_l, List.map_cons, List.map_nil, List.length_cons, List.length_nil, List.replicate, List.cons_append, List.nil_append, List.getElem?_cons_zero, List.getElem?_cons_succ, List.set_cons_zero, List.set_cons_succ, Option.bind_some, Option.map_some, Option.bind_none, Option.map_none, Nat.reduceAdd, Nat.reduceSub, Nat.reduceLT, Nat.reduceLeDiff, ↓reduceIte, reduceCtorEq, Bool.false_eq_true, Bool.true_and, Bool.and_true, Bool.false_and, Bool.and_false, Bool.not_true, Bool.not_false, if_true, if_false, t2, t3, hp, hz, e1, e2, e3, e4, ea, c1, c2, q1, kb2, kb3, hne, decide_true, out_ret]
              unfold BoxM
              simp only [trim2]
        · refine go cs1 d1 s1 ?_
          unfold b19
          have hne : decide (0 < v1) = false := decide_eq_false hz
          simp only [hdS, rel_bl, rel_int, rel_str, rel_non, rel_tup, rel_tpx, rel_lst, rel_dic, rel_mls, evSs, evS, evE, evEs, evB, evI, asgT, asgTs, rdV_k, rd_val, rd_mls, b2_k, bd_k, op_k, op_n, fz_val, fz_mls, bl_k, dr_int, dr_bl, dr_non, dr_str, dr_tup, dr_lst, dr_dic, dr_tpx, tru_bl, tru_lst, tru_tup, cm_lt, cm_le, cm_gt, cm_ge, cm_eqi, cm_eqs, cm_nei, cm_nes, bn_add, bn_addt, bn_addl, bn_sub, bn_mulR, bn_mulL, bn_div, bn_mod, bi_lent, bi_lenl, bi_tupt, bi_tupl, bi_listt, bi_listl, bi_int, bi_sum, bi_all, ix_t, ix_l, ix_s, pt_no, pt_i, no_none, no_int, no_v, no_bin, no_neg, sl_t, sl_l, List.map_cons, List.map_nil, List.length_cons, List.length_nil, List.replicate, List.cons_append, List.nil_append, List.getElem?_cons_zero, List.getElem?_cons_succ, List.set_cons_zero, List.set_cons_succ, Option.bind_some, Option.map_some, Option.bind_none, Option.map_none, Nat.reduceAdd, Nat.reduceSub, Nat.reduceLT, Nat.reduceLeDiff, ↓reduceIte, reduceCtorEq, Bool.false_eq_true, Bool.true_and, Bool.and_true, Bool.false_and, Bool.and_false, Bool.not_true, Bool.not_false, if_true, if_false, t2, t3, hp, e1, hne]
end K00


set_option Elab.async false
set_option linter.all false
set_option maxRecDepth 100000
set_option maxHeartbeats 4000000
namespace K00
open PySem Ev Ul
/-- all of a generator expression, each turn a truth -/
theorem gaL_all {step : D → S → Res (Option Bool × S)} {M : Mem} {g : D → Bool} : ∀ (l : List D) (t : S), t.M = M → (∀ x, x ∈ l → ∀ t : S, t.M = M → ∃ σ', step x t = .ok (some (g x), ⟨σ', M⟩)) → ∃ t', gaL true step l t = .ok (l.all g, t') ∧ t'.M = M
  | [], t, h, _ => ⟨t, rfl, h⟩
  | x :: l, t, h, hs => by
    obtain ⟨σ', e⟩ := hs x List.mem_cons_self t h
    simp only [gaL, e, b2_k]
    cases hg : g x with
    | true =>
      obtain ⟨t', e2, h2⟩ := gaL_all (M := M) (g := g) l ⟨σ', M⟩ rfl fun y hy => hs y (List.mem_cons_of_mem _ hy)
      exact ⟨t', by rw [if_pos rfl, e2, List.all_cons, hg, Bool.true_and], h2⟩
    | false => exact ⟨⟨σ', M⟩, by rw [if_neg (by decide), List.all_cons, hg, Bool.false_and], rfl⟩
theorem ev_ga {C : Calls} {D' : Nat → D} {cs : List Nat} {tg : Tg} {it : I} {el : E} {s : S} {σ : List Rv} {M : Mem} {l : List D} {g : D → Bool} (hi : evI C D' it s = .ok (l, ⟨σ, M⟩)) (hno : noOwn (shr cs σ) cs = true)
    (hs : ∀ x, x ∈ l → ∃ σ1 σ2, asgT tg (.val x) (mskR cs (shr cs σ)) = some σ1 ∧ evE C D' el ⟨σ1, M⟩ = .ok (.val (.bl (g x)), ⟨σ2, M⟩)) : evE C D' (.ga true cs tg it .yes el) s = .ok (.val (.bl (l.all g)), ⟨shr cs σ, M⟩) := by
  simp only [evE, hi, b2_k, hno, if_true]
  obtain ⟨t', e, h⟩ := gaL_all (M := M) (g := g) (step := fun x t => (opt (asgT tg (.val x) (mskR cs (shr cs σ)))).bind fun σ => (evB C D' .yes { t with σ := σ }).b2 fun k t => if k = true then (evE C D' el t).b2 fun y t => (blOf y).bind fun b => .ok (some b, t) else .ok (none, t)) l ⟨σ, M⟩ rfl fun x hx t ht => by
    obtain ⟨σ1, σ2, h1, h2⟩ := hs x hx
    obtain ⟨tσ, tM⟩ := t
    cases ht
    exact ⟨σ2, by simp only [h1, op_k, bd_k, evB, b2_k, if_true, h2, bl_k]⟩
  rw [e]
  obtain ⟨tσ, tM⟩ := t'
  cases h
  rfl
/-! ### texts -/
def LETT : Str := "abcdefghijklmnopqrstuvwxyz"
def SIGS : Str := "abcdefghijklmnopqrstuvwxyz0123456789"
theorem occ1 (c : Nat) (y : Str) : occS ⟨#[c]⟩ y = decide (c ∈ y.cps.toList) := PySem.StrLaws.found_one y c
def isWordL (l : List Nat) : Bool := decide (1 ≤ l.length) && (decide (l.length ≤ 6) && (decide (l.headD 0 ∈ LETT.cps.toList) && l.all fun c => decide (c ∈ SIGS.cps.toList)))
def isWord (x : Str) : Bool := isWordL x.cps.toList
theorem dat0 : dat 0 = .str LETT := rfl
theorem dat1 : dat 1 = .str SIGS := rfl
theorem dat2 : dat 2 = .int 6 := rfl
theorem isS_s {x : Str} : isTy .str (.str x) = some true := rfl
theorem len_s {x : Str} (h : x.length ≤ sizeLine) : biD .len (.str x) = some (.val (.int x.length)) := by
  show (if x.length ≤ sizeLine then some (Rv.val (D.int x.length)) else none) = _
  rw [if_pos h]
theorem sz_of {x : Str} (h : x.length ≤ 100) : x.length ≤ sizeLine := Nat.le_trans h (by decide)
theorem str_len (x : Str) : x.length = x.cps.toList.length := by
  show x.cps.size = _
  simp
theorem in_s {x y : Str} : cmpD .isin (.str x) (.str y) = some (occS x y) := rfl
theorem at_s {x : Str} {c : Nat} {l : List Nat} (h : x.cps.toList = c :: l) (hz : x.length ≤ 100) : strAt x 0 = some (.str ⟨#[c]⟩) := by
  unfold strAt
  rw [if_pos (sz_of hz), h]
  have : L2.atI (c :: l) 0 = some c := by
    unfold L2.atI L2.ixN
    simp
  rw [this]
  rfl
theorem all_chars (g : D → Bool) (x : Str) : (chars x).all g = x.cps.toList.all fun c => g (.str ⟨#[c]⟩) := by
  unfold chars
  rw [List.all_map]
  rfl
theorem chars_len (x : Str) : (chars x).length = x.length := by rw [str_len]; unfold chars; rw [List.length_map]
theorem it_s {x : Str} : itD (.str x) = some (chars x) := rfl
/-- the program's own -/
theorem is_word (n : Nat) (x : Str) (hx : x.length ≤ 100) (M : Mem) : calls fds dat (n + 1) 1 [.str x] M = .ok (.val (.bl (isWord x)), M) := by
  show Ul.R fds dat _ _ _ _ = _
  rw [r_step (f := 1) (ar := 1) (ns := 2) (b := b1) rfl rfl]
  have hl := str_len x
  have L := len_s (sz_of hx)
  unfold b1
  cases hc : x.cps.toList with
  | nil =>
    rw [hc] at hl
    simp only [List.length_nil] at hl
    have e0 : isWord x = false := by unfold isWord; rw [hc]; rfl
    have z : decide ((1 : Int) ≤ ((x.length : Nat) : Int)) = false := decide_eq_false (by omega)
    simp only [rel_bl, rel_int, rel_str, rel_non, rel_tup, rel_tpx, rel_lst, rel_dic, rel_mls, evSs, evS, evE, evEs, evB, evI, asgT, asgTs, rdV_k, rd_val, rd_mls, b2_k, bd_k, op_k, op_n, fz_val, fz_mls, bl_k, dr_int, dr_bl, dr_non, dr_str, dr_tup, dr_lst, dr_dic, dr_tpx, tru_bl, tru_lst, tru_tup, cm_lt, cm_le, cm_gt, cm_ge, cm_eqi, cm_eqs, cm_nei, cm_nes, bn_add, bn_addt, bn_addl, bn_sub, bn_mulR, bn_mulL, bn_div, bn_mod, bi_lent, bi_lenl, bi_tupt, bi_tupl, bi_listt, bi_listl, bi_int, bi_sum, bi_all, ix_t, ix_l, ix_s, pt_no, pt_i, no_none, no_int, no_v, no_bin, no_neg, sl_t, sl_l, List.map_cons, List.map_nil, List.length_cons, List.length_nil, List.replicate, List.cons_append, List.nil_append, List.getElem?_cons_zero, List.getElem?_cons_succ, List.set_cons_zero, List.set_cons_succ, Option.bind_some, Option.map_some, Option.bind_none, Option.map_none, Nat.reduceAdd, Nat.reduceSub, Nat.reduceLT, Nat.reduceLeDiff, ↓reduceIte, reduceCtorEq, Bool.false_eq_true, Bool.true_and, Bool.and_true, Bool.false_and, Bool.and_false, Bool.not_true, Bool.not_false, if_true, if_false, isS_s, L, z, out_ret, trimM, e0]
  | cons c l =>
    rw [hc] at hl
    simp only [List.length_cons] at hl
    have z : decide ((1 : Int) ≤ ((x.length : Nat) : Int)) = true := decide_eq_true (by omega)
    by_cases h6 : x.length ≤ 6
    · have z6 : decide (((x.length : Nat) : Int) ≤ 6) = true := decide_eq_true (by omega)
      have a := at_s hc hx
      have ga := ev_ga (C := calls fds dat n) (D' := dat) (cs := []) (tg := .nm 1) (it := .of (.v 0)) (el := b1_0) (s := ⟨[.val (.str x), .un], M⟩) (σ := [.val (.str x), .un]) (M := M) (l := chars x) (g := fun d => match d with | .str y => occS y SIGS | _ => false)
        (by simp only [rel_bl, rel_int, rel_str, rel_non, rel_tup, rel_tpx, rel_lst, rel_dic, rel_mls, evSs, evS, evE, evEs, evB, evI, asgT, asgTs, rdV_k, rd_val, rd_mls, b2_k, bd_k, op_k, op_n, fz_val, fz_mls, bl_k, dr_int, dr_bl, dr_non, dr_str, dr_tup, dr_lst, dr_dic, dr_tpx, tru_bl, tru_lst, tru_tup, cm_lt, cm_le, cm_gt, cm_ge, cm_eqi, cm_eqs, cm_nei, cm_nes, bn_add, bn_addt, bn_addl, bn_sub, bn_mulR, bn_mulL, bn_div, bn_mod, bi_lent, bi_lenl, bi_tupt, bi_tupl, bi_listt, bi_listl, bi_int, bi_sum, bi_all, ix_t, ix_l, ix_s, pt_no, pt_i, no_none, no_int, no_v, no_bin, no_neg, sl_t, sl_l, List.map_cons, List.map_nil, List.length_cons, List.length_nil, List.replicate, List.cons_append, List.nil_append, List.getElem?_cons_zero, List.getElem?_cons_succ, List.set_cons_zero, List.set_cons_succ, Option.bind_some, Option.map_some, Option.bind_none, Option.map_none, Nat.reduceAdd, Nat.reduceSub, Nat.reduceLT, Nat.reduceLeDiff, ↓reduceIte, reduceCtorEq, Bool.false_eq_true, Bool.true_and, Bool.and_true, Bool.false_and, Bool.and_false, Bool.not_true, Bool.not_false, if_true, if_false, it_s]) rfl fun d hd => by
          obtain ⟨k, _, rfl⟩ := List.mem_map.mp hd
          refine ⟨[.un, .val (.str ⟨#[k]⟩)], [.un, .val (.str ⟨#[k]⟩)], rfl, ?_⟩
          unfold b1_0
          simp only [rel_bl, rel_int, rel_str, rel_non, rel_tup, rel_tpx, rel_lst, rel_dic, rel_mls, evSs, evS, evE, evEs, evB, evI, asgT, asgTs, rdV_k, rd_val, rd_mls, b2_k, bd_k, op_k, op_n, fz_val, fz_mls, bl_k, dr_int, dr_bl, dr_non, dr_str, dr_tup, dr_lst, dr_dic, dr_tpx, tru_bl, tru_lst, tru_tup, cm_lt, cm_le, cm_gt, cm_ge, cm_eqi, cm_eqs, cm_nei, cm_nes, bn_add, bn_addt, bn_addl, bn_sub, bn_mulR, bn_mulL, bn_div, bn_mod, bi_lent, bi_lenl, bi_tupt, bi_tupl, bi_listt, bi_listl, bi_int, bi_sum, bi_all, ix_t, ix_l, ix_s, pt_no, pt_i, no_none, no_int, no_v, no_bin, no_neg, sl_t, sl_l, List.map_cons, List.map_nil, List.length_cons, List.length_nil, List.replicate, List.cons_append, List.nil_append, List.getElem?_cons_zero, List.getElem?_cons_succ, List.set_cons_zero, List.set_cons_succ, Option.bind_some, Option.map_some, Option.bind_none, Option.map_none, Nat.reduceAdd, Nat.reduceSub, Nat.reduceLT, Nat.reduceLeDiff, ↓reduceIte, reduceCtorEq, Bool.false_eq_true, Bool.true_and, Bool.and_true, Bool.false_and, Bool.and_false, Bool.not_true, Bool.not_false, if_true, if_false, dat1, in_s]
      have ga' : evE (calls fds dat n) dat b1_1 ⟨[.val (.str x), .un], M⟩ = .ok (.val (.bl (x.cps.toList.all fun c => decide (c ∈ SIGS.cps.toList))), ⟨[.val (.str x), .un], M⟩) := by
        refine ga.trans ?_
        rw [all_chars]
        simp only [occ1]
        rfl
      have e0 : isWord x = (decide (c ∈ LETT.cps.toList) && x.cps.toList.all fun c => decide (c ∈ SIGS.cps.toList)) := by
        unfold isWord isWordL
        rw [hc]
        have h1 : decide (1 ≤ (c :: l).length) = true := decide_eq_true (by simp)
        have h2 : decide ((c :: l).length ≤ 6) = true := decide_eq_true (by simp only [List.length_cons]; omega)
        rw [h1, h2, Bool.true_and, Bool.true_and]
        rfl
      rw [e0]
      cases hL : decide (c ∈ LETT.cps.toList) with
      | false => simp only [rel_bl, rel_int, rel_str, rel_non, rel_tup, rel_tpx, rel_lst, rel_dic, rel_mls, evSs, evS, evE, evEs, evB, evI, asgT, asgTs, rdV_k, rd_val, rd_mls, b2_k, bd_k, op_k, op_n, fz_val, fz_mls, bl_k, dr_int, dr_bl, dr_non, dr_str, dr_tup, dr_lst, dr_dic, dr_tpx, tru_bl, tru_lst, tru_tup, cm_lt, cm_le, cm_gt, cm_ge, cm_eqi, cm_eqs, cm_nei, cm_nes, bn_add, bn_addt, bn_addl, bn_sub, bn_mulR, bn_mulL, bn_div, bn_mod, bi_lent, bi_lenl, bi_tupt, bi_tupl, bi_listt, bi_listl, bi_int, bi_sum, bi_all, ix_t, ix_l, ix_s, pt_no, pt_i, no_none, no_int, no_v, no_bin, no_neg, sl_t, sl_l, List.map_cons, List.map_nil, List.length_cons, List.length_nil, List.replicate, List.cons_append, List.nil_append, List.getElem?_cons_zero, List.getElem?_cons_succ, List.set_cons_zero, List.set_cons_succ, Option.bind_some, Option.map_some, Option.bind_none, Option.map_none, Nat.reduceAdd, Nat.reduceSub, Nat.reduceLT, Nat.reduceLeDiff, ↓reduceIte, reduceCtorEq, Bool.false_eq_true, Bool.true_and, Bool.and_true, Bool.false_and, Bool.and_false, Bool.not_true, Bool.not_false, if_true, if_false, isS_s, L, z, z6, dat2, dat0, a, in_s, occ1, hL, out_ret, trimM]
      | true => simp only [rel_bl, rel_int, rel_str, rel_non, rel_tup, rel_tpx, rel_lst, rel_dic, rel_mls, evSs, evS, evE, evEs, evB, evI, asgT, asgTs, rdV_k, rd_val, rd_mls, b2_k, bd_k, op_k, op_n, fz_val, fz_mls, bl_k, dr_int, dr_bl, dr_non, dr_str, dr_tup, dr_lst, dr_dic, dr_tpx, tru_bl, tru_lst, tru_tup, cm_lt, cm_le, cm_gt, cm_ge, cm_eqi, cm_eqs, cm_nei, cm_nes, bn_add, bn_addt, bn_addl, bn_sub, bn_mulR, bn_mulL, bn_div, bn_mod, bi_lent, bi_lenl, bi_tupt, bi_tupl, bi_listt, bi_listl, bi_int, bi_sum, bi_all, ix_t, ix_l, ix_s, pt_no, pt_i, no_none, no_int, no_v, no_bin, no_neg, sl_t, sl_l, List.map_cons, List.map_nil, List.length_cons, List.length_nil, List.replicate, List.cons_append, List.nil_append, List.getElem?_cons_zero, List.getElem?_cons_succ, List.set_cons_zero, List.set_cons_succ, Option.bind_some, Option.map_some, Option.bind_none, Option.map_none, Nat.reduceAdd, Nat.reduceSub, Nat.reduceLT, Nat.reduceLeDiff, ↓reduceIte, reduceCtorEq, Bool.false_eq_true, Bool.true_and, Bool.and_true, Bool.false_and, Bool.and_false, Bool.not_true, Bool.not_false, if_true, if_false, isS_s, L, z, z6, dat2, dat0, a, in_s, occ1, hL, ga', out_ret, trimM]
    · have z6 : decide (((x.length : Nat) : Int) ≤ 6) = false := decide_eq_false (by omega)
      have e0 : isWord x = false := by
        unfold isWord isWordL
        rw [hc]
        have h2 : decide ((c :: l).length ≤ 6) = false := decide_eq_false (by simp only [List.length_cons]; omega)
        rw [h2, Bool.false_and, Bool.and_false]
      simp only [rel_bl, rel_int, rel_str, rel_non, rel_tup, rel_tpx, rel_lst, rel_dic, rel_mls, evSs, evS, evE, evEs, evB, evI, asgT, asgTs, rdV_k, rd_val, rd_mls, b2_k, bd_k, op_k, op_n, fz_val, fz_mls, bl_k, dr_int, dr_bl, dr_non, dr_str, dr_tup, dr_lst, dr_dic, dr_tpx, tru_bl, tru_lst, tru_tup, cm_lt, cm_le, cm_gt, cm_ge, cm_eqi, cm_eqs, cm_nei, cm_nes, bn_add, bn_addt, bn_addl, bn_sub, bn_mulR, bn_mulL, bn_div, bn_mod, bi_lent, bi_lenl, bi_tupt, bi_tupl, bi_listt, bi_listl, bi_int, bi_sum, bi_all, ix_t, ix_l, ix_s, pt_no, pt_i, no_none, no_int, no_v, no_bin, no_neg, sl_t, sl_l, List.map_cons, List.map_nil, List.length_cons, List.length_nil, List.replicate, List.cons_append, List.nil_append, List.getElem?_cons_zero, List.getElem?_cons_succ, List.set_cons_zero, List.set_cons_succ, Option.bind_some, Option.map_some, Option.bind_none, Option.map_none, Nat.reduceAdd, Nat.reduceSub, Nat.reduceLT, Nat.reduceLeDiff, ↓reduceIte, reduceCtorEq, Bool.false_eq_true, Bool.true_and, Bool.and_true, Bool.false_and, Bool.and_false, Bool.not_true, Bool.not_false, if_true, if_false, isS_s, L, z, z6, dat2, out_ret, trimM, e0]
end K00


set_option Elab.async false
set_option linter.all false
set_option maxRecDepth 100000
set_option maxHeartbeats 4000000
namespace K00
open PySem Ev Ul
theorem sigs_eq : LETT ++ ("0123456789" : Str) = SIGS := by decide +kernel
theorem bn_adds {a b : Str} (h : a.length + b.length ≤ seqLine) : binD .add (.str a) (.str b) = some (.val (.str (a ++ b))) := by
  show (if a.length + b.length ≤ seqLine then some (Rv.val (D.str (a ++ b))) else none) = _
  rw [if_pos h]
theorem chk1 : LETT.length + ("0123456789" : Str).length ≤ seqLine := by decide +kernel
theorem lett_str : ("abcdefghijklmnopqrstuvwxyz" : Str) = LETT := rfl
theorem all_ids (l : List D) (g : D → Bool) : (blsOf (l.map fun d => D.bl (g d))).map (fun r => Rv.val (.bl (r.all id))) = some (.val (.bl (l.all g))) := by
  have : (l.map fun d => D.bl (g d)) = (l.map g).map D.bl := by rw [List.map_map]; rfl
  rw [this, bls_of, Option.map_some, List.all_map]
  rfl
/-- the law's own -/
theorem law_word (n : Nat) (x : Str) (hx : x.length ≤ 100) (M : Mem) : calls fds dat (n + 1) 22 [.str x] M = .ok (.val (.bl (isWord x)), M) := by
  show Ul.R fds dat _ _ _ _ = _
  rw [r_step (f := 22) (ar := 1) (ns := 3) (b := b22) rfl rfl]
  have hl := str_len x
  have L := len_s (sz_of hx)
  have s3 : decide ((3 : Nat) = 3) = true := rfl
  unfold b22
  cases hc : x.cps.toList with
  | nil =>
    rw [hc] at hl
    simp only [List.length_nil] at hl
    have e0 : isWord x = false := by unfold isWord; rw [hc]; rfl
    have z : decide ((1 : Int) ≤ ((x.length : Nat) : Int)) = false := decide_eq_false (by omega)
    simp only [rel_bl, rel_int, rel_str, rel_non, rel_tup, rel_tpx, rel_lst, rel_dic, rel_mls, evSs, evS, evE, evEs, evB, evI, asgT, asgTs, rdV_k, rd_val, rd_mls, b2_k, bd_k, op_k, op_n, fz_val, fz_mls, bl_k, dr_int, dr_bl, dr_non, dr_str, dr_tup, dr_lst, dr_dic, dr_tpx, tru_bl, tru_lst, tru_tup, cm_lt, cm_le, cm_gt, cm_ge, cm_eqi, cm_eqs, cm_nei, cm_nes, bn_add, bn_addt, bn_addl, bn_sub, bn_mulR, bn_mulL, bn_div, bn_mod, bi_lent, bi_lenl, bi_tupt, bi_tupl, bi_listt, bi_listl, bi_int, bi_sum, bi_all, ix_t, ix_l, ix_s, pt_no, pt_i, no_none, no_int, no_v, no_bin, no_neg, sl_t, sl_l, List.map_cons, List.map_nil, List.length_cons, List.length_nil, List.replicate, List.cons_append, List.nil_append, List.getElem?_cons_zero, List.getElem?_cons_succ, List.set_cons_zero, List.set_cons_succ, Option.bind_some, Option.map_some, Option.bind_none, Option.map_none, Nat.reduceAdd, Nat.reduceSub, Nat.reduceLT, Nat.reduceLeDiff, ↓reduceIte, reduceCtorEq, Bool.false_eq_true, Bool.true_and, Bool.and_true, Bool.false_and, Bool.and_false, Bool.not_true, Bool.not_false, if_true, if_false, isS_s, L, z, out_ret, trimM, e0]
  | cons c l =>
    rw [hc] at hl
    simp only [List.length_cons] at hl
    have z : decide ((1 : Int) ≤ ((x.length : Nat) : Int)) = true := decide_eq_true (by omega)
    by_cases h6 : x.length ≤ 6
    · have z6 : decide (((x.length : Nat) : Int) ≤ 6) = true := decide_eq_true (by omega)
      have a := at_s hc hx
      have lc := ev_lcT (C := calls fds dat n) (D' := dat) (vs := [2]) (tg := .nm 2) (it := .of (.v 0)) (c := .yes) (el := b22_0) (s := ⟨[.val (.str x), .val (.str LETT), .un], M⟩) (σ := [.val (.str x), .val (.str LETT), .un]) (M := M) (M' := M) (l := chars x)
        (by simp only [rel_bl, rel_int, rel_str, rel_non, rel_tup, rel_tpx, rel_lst, rel_dic, rel_mls, evSs, evS, evE, evEs, evB, evI, asgT, asgTs, rdV_k, rd_val, rd_mls, b2_k, bd_k, op_k, op_n, fz_val, fz_mls, bl_k, dr_int, dr_bl, dr_non, dr_str, dr_tup, dr_lst, dr_dic, dr_tpx, tru_bl, tru_lst, tru_tup, cm_lt, cm_le, cm_gt, cm_ge, cm_eqi, cm_eqs, cm_nei, cm_nes, bn_add, bn_addt, bn_addl, bn_sub, bn_mulR, bn_mulL, bn_div, bn_mod, bi_lent, bi_lenl, bi_tupt, bi_tupl, bi_listt, bi_listl, bi_int, bi_sum, bi_all, ix_t, ix_l, ix_s, pt_no, pt_i, no_none, no_int, no_v, no_bin, no_neg, sl_t, sl_l, List.map_cons, List.map_nil, List.length_cons, List.length_nil, List.replicate, List.cons_append, List.nil_append, List.getElem?_cons_zero, List.getElem?_cons_succ, List.set_cons_zero, List.set_cons_succ, Option.bind_some, Option.map_some, Option.bind_none, Option.map_none, Nat.reduceAdd, Nat.reduceSub, Nat.reduceLT, Nat.reduceLeDiff, ↓reduceIte, reduceCtorEq, Bool.false_eq_true, Bool.true_and, Bool.and_true, Bool.false_and, Bool.and_false, Bool.not_true, Bool.not_false, if_true, if_false, it_s]) rfl (by rw [chars_len]; exact le_seq (by omega)) rfl rfl (turns_yes (g := fun d => .bl (match d with | .str y => occS y SIGS | _ => false)) fun d hd => by
          obtain ⟨k, _, rfl⟩ := List.mem_map.mp hd
          refine ⟨[.val (.str x), .val (.str LETT), .val (.str ⟨#[k]⟩)], [.val (.str x), .val (.str LETT), .val (.str ⟨#[k]⟩)], .val (.bl (occS ⟨#[k]⟩ SIGS)), rfl, ?_, rfl, rfl⟩
          unfold b22_0
          simp only [rel_bl, rel_int, rel_str, rel_non, rel_tup, rel_tpx, rel_lst, rel_dic, rel_mls, evSs, evS, evE, evEs, evB, evI, asgT, asgTs, rdV_k, rd_val, rd_mls, b2_k, bd_k, op_k, op_n, fz_val, fz_mls, bl_k, dr_int, dr_bl, dr_non, dr_str, dr_tup, dr_lst, dr_dic, dr_tpx, tru_bl, tru_lst, tru_tup, cm_lt, cm_le, cm_gt, cm_ge, cm_eqi, cm_eqs, cm_nei, cm_nes, bn_add, bn_addt, bn_addl, bn_sub, bn_mulR, bn_mulL, bn_div, bn_mod, bi_lent, bi_lenl, bi_tupt, bi_tupl, bi_listt, bi_listl, bi_int, bi_sum, bi_all, ix_t, ix_l, ix_s, pt_no, pt_i, no_none, no_int, no_v, no_bin, no_neg, sl_t, sl_l, List.map_cons, List.map_nil, List.length_cons, List.length_nil, List.replicate, List.cons_append, List.nil_append, List.getElem?_cons_zero, List.getElem?_cons_succ, List.set_cons_zero, List.set_cons_succ, Option.bind_some, Option.map_some, Option.bind_none, Option.map_none, Nat.reduceAdd, Nat.reduceSub, Nat.reduceLT, Nat.reduceLeDiff, ↓reduceIte, reduceCtorEq, Bool.false_eq_true, Bool.true_and, Bool.and_true, Bool.false_and, Bool.and_false, Bool.not_true, Bool.not_false, if_true, if_false, bn_adds chk1, sigs_eq, in_s])
      have lc' : evE (calls fds dat n) dat b22_1 ⟨[.val (.str x), .val (.str LETT), .un], M⟩ = .ok (.mls ((chars x).map fun d => .bl (match d with | .str y => occS y SIGS | _ => false)), ⟨[.val (.str x), .val (.str LETT), .un], M⟩) := lc
      have al := all_ids (chars x) (fun d => match d with | .str y => occS y SIGS | _ => false)
      rw [all_chars] at al
      simp only [occ1] at al
      have e0 : isWord x = (decide (c ∈ LETT.cps.toList) && x.cps.toList.all fun c => decide (c ∈ SIGS.cps.toList)) := by
        unfold isWord isWordL
        rw [hc]
        have h1 : decide (1 ≤ (c :: l).length) = true := decide_eq_true (by simp)
        have h2 : decide ((c :: l).length ≤ 6) = true := decide_eq_true (by simp only [List.length_cons]; omega)
        rw [h1, h2, Bool.true_and, Bool.true_and]
        rfl
      rw [e0]
      cases hL : decide (c ∈ LETT.cps.toList) with
      | false => simp only [rel_bl, rel_int, rel_str, rel_non, rel_tup, rel_tpx, rel_lst, rel_dic, rel_mls, evSs, evS, evE, evEs, evB, evI, asgT, asgTs, rdV_k, rd_val, rd_mls, b2_k, bd_k, op_k, op_n, fz_val, fz_mls, bl_k, dr_int, dr_bl, dr_non, dr_str, dr_tup, dr_lst, dr_dic, dr_tpx, tru_bl, tru_lst, tru_tup, cm_lt, cm_le, cm_gt, cm_ge, cm_eqi, cm_eqs, cm_nei, cm_nes, bn_add, bn_addt, bn_addl, bn_sub, bn_mulR, bn_mulL, bn_div, bn_mod, bi_lent, bi_lenl, bi_tupt, bi_tupl, bi_listt, bi_listl, bi_int, bi_sum, bi_all, ix_t, ix_l, ix_s, pt_no, pt_i, no_none, no_int, no_v, no_bin, no_neg, sl_t, sl_l, List.map_cons, List.map_nil, List.length_cons, List.length_nil, List.replicate, List.cons_append, List.nil_append, List.getElem?_cons_zero, List.getElem?_cons_succ, List.set_cons_zero, List.set_cons_succ, Option.bind_some, Option.map_some, Option.bind_none, Option.map_none, Nat.reduceAdd, Nat.reduceSub, Nat.reduceLT, Nat.reduceLeDiff, ↓reduceIte, reduceCtorEq, Bool.false_eq_true, Bool.true_and, Bool.and_true, Bool.false_and, Bool.and_false, Bool.not_true, Bool.not_false, if_true, if_false, isS_s, L, z, z6, a, lett_str, in_s, occ1, hL, out_ret, trimM]
      | true => simp only [rel_bl, rel_int, rel_str, rel_non, rel_tup, rel_tpx, rel_lst, rel_dic, rel_mls, evSs, evS, evE, evEs, evB, evI, asgT, asgTs, rdV_k, rd_val, rd_mls, b2_k, bd_k, op_k, op_n, fz_val, fz_mls, bl_k, dr_int, dr_bl, dr_non, dr_str, dr_tup, dr_lst, dr_dic, dr_tpx, tru_bl, tru_lst, tru_tup, cm_lt, cm_le, cm_gt, cm_ge, cm_eqi, cm_eqs, cm_nei, cm_nes, bn_add, bn_addt, bn_addl, bn_sub, bn_mulR, bn_mulL, bn_div, bn_mod, bi_lent, bi_lenl, bi_tupt, bi_tupl, bi_listt, bi_listl, bi_int, bi_sum, bi_all, ix_t, ix_l, ix_s, pt_no, pt_i, no_none, no_int, no_v, no_bin, no_neg, sl_t, sl_l, List.map_cons, List.map_nil, List.length_cons, List.length_nil, List.replicate, List.cons_append, List.nil_append, List.getElem?_cons_zero, List.getElem?_cons_succ, List.set_cons_zero, List.set_cons_succ, Option.bind_some, Option.map_some, Option.bind_none, Option.map_none, Nat.reduceAdd, Nat.reduceSub, Nat.reduceLT, Nat.reduceLeDiff, ↓reduceIte, reduceCtorEq, Bool.false_eq_true, Bool.true_and, Bool.and_true, Bool.false_and, Bool.and_false, Bool.not_true, Bool.not_false, if_true, if_false, isS_s, L, z, z6, a, lett_str, in_s, occ1, hL, lc', al, out_ret, trimM]
    · have z6 : decide (((x.length : Nat) : Int) ≤ 6) = false := decide_eq_false (by omega)
      have e0 : isWord x = false := by
        unfold isWord isWordL
        rw [hc]
        have h2 : decide ((c :: l).length ≤ 6) = false := decide_eq_false (by simp only [List.length_cons]; omega)
        rw [h2, Bool.false_and, Bool.and_false]
      simp only [rel_bl, rel_int, rel_str, rel_non, rel_tup, rel_tpx, rel_lst, rel_dic, rel_mls, evSs, evS, evE, evEs, evB, evI, asgT, asgTs, rdV_k, rd_val, rd_mls, b2_k, bd_k, op_k, op_n, fz_val, fz_mls, bl_k, dr_int, dr_bl, dr_non, dr_str, dr_tup, dr_lst, dr_dic, dr_tpx, tru_bl, tru_lst, tru_tup, cm_lt, cm_le, cm_gt, cm_ge, cm_eqi, cm_eqs, cm_nei, cm_nes, bn_add, bn_addt, bn_addl, bn_sub, bn_mulR, bn_mulL, bn_div, bn_mod, bi_lent, bi_lenl, bi_tupt, bi_tupl, bi_listt, bi_listl, bi_int, bi_sum, bi_all, ix_t, ix_l, ix_s, pt_no, pt_i, no_none, no_int, no_v, no_bin, no_neg, sl_t, sl_l, List.map_cons, List.map_nil, List.length_cons, List.length_nil, List.replicate, List.cons_append, List.nil_append, List.getElem?_cons_zero, List.getElem?_cons_succ, List.set_cons_zero, List.set_cons_succ, Option.bind_some, Option.map_some, Option.bind_none, Option.map_none, Nat.reduceAdd, Nat.reduceSub, Nat.reduceLT, Nat.reduceLeDiff, ↓reduceIte, reduceCtorEq, Bool.false_eq_true, Bool.true_and, Bool.and_true, Bool.false_and, Bool.and_false, Bool.not_true, Bool.not_false, if_true, if_false, isS_s, L, z, z6, out_ret, trimM, e0]
/-! ### names -/
theorem sl_s {x : Str} (h : x.length ≤ sizeLine) {a b : Option Int} : slD (.str x) a b = some (.val (.str (L2.cutS x a b))) := by
  show (if x.length ≤ sizeLine then some (Rv.val (D.str (L2.cutS x a b))) else none) = _
  rw [if_pos h]
theorem cutS_len (x : Str) (a b : Option Int) : (L2.cutS x a b).length ≤ x.length := by
  rw [str_len, str_len x]
  unfold L2.cutS
  simp only [List.length_take, List.length_drop]
  omega
/-- without its first sign, if that is the one -/
def strip (c x : Str) : Str := if L2.cutS x none (some 1) = c then L2.cutS x (some 1) none else x
theorem strip_len (c x : Str) : (strip c x).length ≤ x.length := by
  unfold strip
  split
  · exact cutS_len _ _ _
  · exact Nat.le_refl _
def isName (x : Str) : Bool := isWord (strip "_" (strip "@" x))
theorem is_name (n : Nat) (x : Str) (hx : x.length ≤ 100) (M : Mem) : calls fds dat (n + 2) 2 [.str x] M = .ok (.val (.bl (isName x)), M) := by
  show Ul.R fds dat _ _ _ _ = _
  rw [r_step (f := 2) (ar := 1) (ns := 2) (b := b2) rfl rfl]
  have hs := fun a b => sl_s (x := x) (sz_of hx) (a := a) (b := b)
  have h1 : (strip "@" x).length ≤ 100 := Nat.le_trans (strip_len _ _) hx
  have hs1 := fun a b => sl_s (x := strip "@" x) (sz_of h1) (a := a) (b := b)
  have h2 : (strip "_" (strip "@" x)).length ≤ 100 := Nat.le_trans (strip_len _ _) h1
  have w := is_word n (strip "_" (strip "@" x)) h2 M
  have e1 : evS (calls fds dat (n + 1)) dat (.asg (.nm 1) (.ife (.of (.cmp .eq (.sl (.v 0) .none (.int 1)) (.str "@"))) (.sl (.v 0) (.int 1) .none) (.v 0))) ⟨[.val (.str x), .un], M⟩ = .ok (.nx, ⟨[.val (.str x), .val (.str (strip "@" x))], M⟩) := by
    unfold strip
    by_cases h : L2.cutS x none (some 1) = ("@" : Str)
    · simp only [rel_bl, rel_int, rel_str, rel_non, rel_tup, rel_tpx, rel_lst, rel_dic, rel_mls, evSs, evS, evE, evEs, evB, evI, asgT, asgTs, rdV_k, rd_val, rd_mls, b2_k, bd_k, op_k, op_n, fz_val, fz_mls, bl_k, dr_int, dr_bl, dr_non, dr_str, dr_tup, dr_lst, dr_dic, dr_tpx, tru_bl, tru_lst, tru_tup, cm_lt, cm_le, cm_gt, cm_ge, cm_eqi, cm_eqs, cm_nei, cm_nes, bn_add, bn_addt, bn_addl, bn_sub, bn_mulR, bn_mulL, bn_div, bn_mod, bi_lent, bi_lenl, bi_tupt, bi_tupl, bi_listt, bi_listl, bi_int, bi_sum, bi_all, ix_t, ix_l, ix_s, pt_no, pt_i, no_none, no_int, no_v, no_bin, no_neg, sl_t, sl_l, List.map_cons, List.map_nil, List.length_cons, List.length_nil, List.replicate, List.cons_append, List.nil_append, List.getElem?_cons_zero, List.getElem?_cons_succ, List.set_cons_zero, List.set_cons_succ, Option.bind_some, Option.map_some, Option.bind_none, Option.map_none, Nat.reduceAdd, Nat.reduceSub, Nat.reduceLT, Nat.reduceLeDiff, ↓reduceIte, reduceCtorEq, Bool.false_eq_true, Bool.true_and, Bool.and_true, Bool.false_and, Bool.and_false, Bool.not_true, Bool.not_false, if_true, if_false, hs, h, decide_true]
    · simp only [rel_bl, rel_int, rel_str, rel_non, rel_tup, rel_tpx, rel_lst, rel_dic, rel_mls, evSs, evS, evE, evEs, evB, evI, asgT, asgTs, rdV_k, rd_val, rd_mls, b2_k, bd_k, op_k, op_n, fz_val, fz_mls, bl_k, dr_int, dr_bl, dr_non, dr_str, dr_tup, dr_lst, dr_dic, dr_tpx, tru_bl, tru_lst, tru_tup, cm_lt, cm_le, cm_gt, cm_ge, cm_eqi, cm_eqs, cm_nei, cm_nes, bn_add, bn_addt, bn_addl, bn_sub, bn_mulR, bn_mulL, bn_div, bn_mod, bi_lent, bi_lenl, bi_tupt, bi_tupl, bi_listt, bi_listl, bi_int, bi_sum, bi_all, ix_t, ix_l, ix_s, pt_no, pt_i, no_none, no_int, no_v, no_bin, no_neg, sl_t, sl_l, List.map_cons, List.map_nil, List.length_cons, List.length_nil, List.replicate, List.cons_append, List.nil_append, List.getElem?_cons_zero, List.getElem?_cons_succ, List.set_cons_zero, List.set_cons_succ, Option.bind_some, Option.map_some, Option.bind_none, Option.map_none, Nat.reduceAdd, Nat.reduceSub, Nat.reduceLT, Nat.reduceLeDiff, ↓reduceIte, reduceCtorEq, Bool.false_eq_true, Bool.true_and, Bool.and_true, Bool.false_and, Bool.and_false, Bool.not_true, Bool.not_false, if_true, if_false, hs, h, decide_false]
  unfold b2
  rw [evSs]
  have e0 : evS (calls fds dat (n + 1)) dat (.iff (.not (.of (.isi (.v 0) .str))) (.cons (.ret (.bl false)) .nil) .nil) ⟨[.val (.str x), .un], M⟩ = .ok (.nx, ⟨[.val (.str x), .un], M⟩) := by
    simp only [rel_bl, rel_int, rel_str, rel_non, rel_tup, rel_tpx, rel_lst, rel_dic, rel_mls, evSs, evS, evE, evEs, evB, evI, asgT, asgTs, rdV_k, rd_val, rd_mls, b2_k, bd_k, op_k, op_n, fz_val, fz_mls, bl_k, dr_int, dr_bl, dr_non, dr_str, dr_tup, dr_lst, dr_dic, dr_tpx, tru_bl, tru_lst, tru_tup, cm_lt, cm_le, cm_gt, cm_ge, cm_eqi, cm_eqs, cm_nei, cm_nes, bn_add, bn_addt, bn_addl, bn_sub, bn_mulR, bn_mulL, bn_div, bn_mod, bi_lent, bi_lenl, bi_tupt, bi_tupl, bi_listt, bi_listl, bi_int, bi_sum, bi_all, ix_t, ix_l, ix_s, pt_no, pt_i, no_none, no_int, no_v, no_bin, no_neg, sl_t, sl_l, List.map_cons, List.map_nil, List.length_cons, List.length_nil, List.replicate, List.cons_append, List.nil_append, List.getElem?_cons_zero, List.getElem?_cons_succ, List.set_cons_zero, List.set_cons_succ, Option.bind_some, Option.map_some, Option.bind_none, Option.map_none, Nat.reduceAdd, Nat.reduceSub, Nat.reduceLT, Nat.reduceLeDiff, ↓reduceIte, reduceCtorEq, Bool.false_eq_true, Bool.true_and, Bool.and_true, Bool.false_and, Bool.and_false, Bool.not_true, Bool.not_false, if_true, if_false, isS_s]
  show outT M.length ((evS _ _ _ ⟨[.val (.str x), .un], M⟩).b2 _) = _
  rw [e0, b2_k]
  show outT M.length (evSs _ _ _ _) = _
  rw [evSs, e1, b2_k]
  show outT M.length (evSs _ _ _ _) = _
  have e2 : strip "_" (strip "@" x) = if L2.cutS (strip "@" x) none (some 1) = ("_" : Str) then L2.cutS (strip "@" x) (some 1) none else strip "@" x := rfl
  unfold isName
  by_cases h : L2.cutS (strip "@" x) none (some 1) = ("_" : Str)
  · rw [if_pos h] at e2
    rw [e2] at w
    rw [e2]
    simp only [rel_bl, rel_int, rel_str, rel_non, rel_tup, rel_tpx, rel_lst, rel_dic, rel_mls, evSs, evS, evE, evEs, evB, evI, asgT, asgTs, rdV_k, rd_val, rd_mls, b2_k, bd_k, op_k, op_n, fz_val, fz_mls, bl_k, dr_int, dr_bl, dr_non, dr_str, dr_tup, dr_lst, dr_dic, dr_tpx, tru_bl, tru_lst, tru_tup, cm_lt, cm_le, cm_gt, cm_ge, cm_eqi, cm_eqs, cm_nei, cm_nes, bn_add, bn_addt, bn_addl, bn_sub, bn_mulR, bn_mulL, bn_div, bn_mod, bi_lent, bi_lenl, bi_tupt, bi_tupl, bi_listt, bi_listl, bi_int, bi_sum, bi_all, ix_t, ix_l, ix_s, pt_no, pt_i, no_none, no_int, no_v, no_bin, no_neg, sl_t, sl_l, List.map_cons, List.map_nil, List.length_cons, List.length_nil, List.replicate, List.cons_append, List.nil_append, List.getElem?_cons_zero, List.getElem?_cons_succ, List.set_cons_zero, List.set_cons_succ, Option.bind_some, Option.map_some, Option.bind_none, Option.map_none, Nat.reduceAdd, Nat.reduceSub, Nat.reduceLT, Nat.reduceLeDiff, ↓reduceIte, reduceCtorEq, Bool.false_eq_true, Bool.true_and, Bool.and_true, Bool.false_and, Bool.and_false, Bool.not_true, Bool.not_false, if_true, if_false, hs1, h, decide_true, w, out_ret, trimM]
  · rw [if_neg h] at e2
    rw [e2] at w
    rw [e2]
    simp only [rel_bl, rel_int, rel_str, rel_non, rel_tup, rel_tpx, rel_lst, rel_dic, rel_mls, evSs, evS, evE, evEs, evB, evI, asgT, asgTs, rdV_k, rd_val, rd_mls, b2_k, bd_k, op_k, op_n, fz_val, fz_mls, bl_k, dr_int, dr_bl, dr_non, dr_str, dr_tup, dr_lst, dr_dic, dr_tpx, tru_bl, tru_lst, tru_tup, cm_lt, cm_le, cm_gt, cm_ge, cm_eqi, cm_eqs, cm_nei, cm_nes, bn_add, bn_addt, bn_addl, bn_sub, bn_mulR, bn_mulL, bn_div, bn_mod, bi_lent, bi_lenl, bi_tupt, bi_tupl, bi_listt, bi_listl, bi_int, bi_sum, bi_all, ix_t, ix_l, ix_s, pt_no, pt_i, no_none, no_int, no_v, no_bin, no_neg, sl_t, sl_l, List.map_cons, List.map_nil, List.length_cons, List.length_nil, List.replicate, List.cons_append, List.nil_append, List.getElem?_cons_zero, List.getElem?_cons_succ, List.set_cons_zero, List.set_cons_succ, Option.bind_some, Option.map_some, Option.bind_none, Option.map_none, Nat.reduceAdd, Nat.reduceSub, Nat.reduceLT, Nat.reduceLeDiff, ↓reduceIte, reduceCtorEq, Bool.false_eq_true, Bool.true_and, Bool.and_true, Bool.false_and, Bool.and_false, Bool.not_true, Bool.not_false, if_true, if_false, hs1, h, decide_false, w, out_ret, trimM]
theorem law_name (n : Nat) (x : Str) (hx : x.length ≤ 100) (M : Mem) : calls fds dat (n + 2) 23 [.str x] M = .ok (.val (.bl (isName x)), M) := by
  show Ul.R fds dat _ _ _ _ = _
  rw [r_step (f := 23) (ar := 1) (ns := 2) (b := b23) rfl rfl]
  have hs := fun a b => sl_s (x := x) (sz_of hx) (a := a) (b := b)
  have h1 : (strip "@" x).length ≤ 100 := Nat.le_trans (strip_len _ _) hx
  have hs1 := fun a b => sl_s (x := strip "@" x) (sz_of h1) (a := a) (b := b)
  have h2 : (strip "_" (strip "@" x)).length ≤ 100 := Nat.le_trans (strip_len _ _) h1
  have w := law_word n (strip "_" (strip "@" x)) h2 M
  have e1 : evS (calls fds dat (n + 1)) dat (.asg (.nm 1) (.ife (.of (.cmp .eq (.sl (.v 0) .none (.int 1)) (.str "@"))) (.sl (.v 0) (.int 1) .none) (.v 0))) ⟨[.val (.str x), .un], M⟩ = .ok (.nx, ⟨[.val (.str x), .val (.str (strip "@" x))], M⟩) := by
    unfold strip
    by_cases h : L2.cutS x none (some 1) = ("@" : Str)
    · simp only [rel_bl, rel_int, rel_str, rel_non, rel_tup, rel_tpx, rel_lst, rel_dic, rel_mls, evSs, evS, evE, evEs, evB, evI, asgT, asgTs, rdV_k, rd_val, rd_mls, b2_k, bd_k, op_k, op_n, fz_val, fz_mls, bl_k, dr_int, dr_bl, dr_non, dr_str, dr_tup, dr_lst, dr_dic, dr_tpx, tru_bl, tru_lst, tru_tup, cm_lt, cm_le, cm_gt, cm_ge, cm_eqi, cm_eqs, cm_nei, cm_nes, bn_add, bn_addt, bn_addl, bn_sub, bn_mulR, bn_mulL, bn_div, bn_mod, bi_lent, bi_lenl, bi_tupt, bi_tupl, bi_listt, bi_listl, bi_int, bi_sum, bi_all, ix_t, ix_l, ix_s, pt_no, pt_i, no_none, no_int, no_v, no_bin, no_neg, sl_t, sl_l, List.map_cons, List.map_nil, List.length_cons, List.length_nil, List.replicate, List.cons_append, List.nil_append, List.getElem?_cons_zero, List.getElem?_cons_succ, List.set_cons_zero, List.set_cons_succ, Option.bind_some, Option.map_some, Option.bind_none, Option.map_none, Nat.reduceAdd, Nat.reduceSub, Nat.reduceLT, Nat.reduceLeDiff, ↓reduceIte, reduceCtorEq, Bool.false_eq_true, Bool.true_and, Bool.and_true, Bool.false_and, Bool.and_false, Bool.not_true, Bool.not_false, if_true, if_false, hs, h, decide_true]
    · simp only [rel_bl, rel_int, rel_str, rel_non, rel_tup, rel_tpx, rel_lst, rel_dic, rel_mls, evSs, evS, evE, evEs, evB, evI, asgT, asgTs, rdV_k, rd_val, rd_mls, b2_k, bd_k, op_k, op_n, fz_val, fz_mls, bl_k, dr_int, dr_bl, dr_non, dr_str, dr_tup, dr_lst, dr_dic, dr_tpx, tru_bl, tru_lst, tru_tup, cm_lt, cm_le, cm_gt, cm_ge, cm_eqi, cm_eqs, cm_nei, cm_nes, bn_add, bn_addt, bn_addl, bn_sub, bn_mulR, bn_mulL, bn_div, bn_mod, bi_lent, bi_lenl, bi_tupt, bi_tupl, bi_listt, bi_listl, bi_int, bi_sum, bi_all, ix_t, ix_l, ix_s, pt_no, pt_i, no_none, no_int, no_v, no_bin, no_neg, sl_t, sl_l, List.map_cons, List.map_nil, List.length_cons, List.length_nil, List.replicate, List.cons_append, List.nil_append, List.getElem?_cons_zero, List.getElem?_cons_succ, List.set_cons_zero, List.set_cons_succ, Option.bind_some, Option.map_some, Option.bind_none, Option.map_none, Nat.reduceAdd, Nat.reduceSub, Nat.reduceLT, Nat.reduceLeDiff, ↓reduceIte, reduceCtorEq, Bool.false_eq_true, Bool.true_and, Bool.and_true, Bool.false_and, Bool.and_false, Bool.not_true, Bool.not_false, if_true, if_false, hs, h, decide_false]
  unfold b23
  rw [evSs]
  have e0 : evS (calls fds dat (n + 1)) dat (.iff (.not (.of (.isi (.v 0) .str))) (.cons (.ret (.bl false)) .nil) .nil) ⟨[.val (.str x), .un], M⟩ = .ok (.nx, ⟨[.val (.str x), .un], M⟩) := by
    simp only [rel_bl, rel_int, rel_str, rel_non, rel_tup, rel_tpx, rel_lst, rel_dic, rel_mls, evSs, evS, evE, evEs, evB, evI, asgT, asgTs, rdV_k, rd_val, rd_mls, b2_k, bd_k, op_k, op_n, fz_val, fz_mls, bl_k, dr_int, dr_bl, dr_non, dr_str, dr_tup, dr_lst, dr_dic, dr_tpx, tru_bl, tru_lst, tru_tup, cm_lt, cm_le, cm_gt, cm_ge, cm_eqi, cm_eqs, cm_nei, cm_nes, bn_add, bn_addt, bn_addl, bn_sub, bn_mulR, bn_mulL, bn_div, bn_mod, bi_lent, bi_lenl, bi_tupt, bi_tupl, bi_listt, bi_listl, bi_int, bi_sum, bi_all, ix_t, ix_l, ix_s, pt_no, pt_i, no_none, no_int, no_v, no_bin, no_neg, sl_t, sl_l, List.map_cons, List.map_nil, List.length_cons, List.length_nil, List.replicate, List.cons_append, List.nil_append, List.getElem?_cons_zero, List.getElem?_cons_succ, List.set_cons_zero, List.set_cons_succ, Option.bind_some, Option.map_some, Option.bind_none, Option.map_none, Nat.reduceAdd, Nat.reduceSub, Nat.reduceLT, Nat.reduceLeDiff, ↓reduceIte, reduceCtorEq, Bool.false_eq_true, Bool.true_and, Bool.and_true, Bool.false_and, Bool.and_false, Bool.not_true, Bool.not_false, if_true, if_false, isS_s]
  show outT M.length ((evS _ _ _ ⟨[.val (.str x), .un], M⟩).b2 _) = _
  rw [e0, b2_k]
  show outT M.length (evSs _ _ _ _) = _
  rw [evSs, e1, b2_k]
  show outT M.length (evSs _ _ _ _) = _
  have e2 : strip "_" (strip "@" x) = if L2.cutS (strip "@" x) none (some 1) = ("_" : Str) then L2.cutS (strip "@" x) (some 1) none else strip "@" x := rfl
  unfold isName
  by_cases h : L2.cutS (strip "@" x) none (some 1) = ("_" : Str)
  · rw [if_pos h] at e2
    rw [e2] at w
    rw [e2]
    simp only [rel_bl, rel_int, rel_str, rel_non, rel_tup, rel_tpx, rel_lst, rel_dic, rel_mls, evSs, evS, evE, evEs, evB, evI, asgT, asgTs, rdV_k, rd_val, rd_mls, b2_k, bd_k, op_k, op_n, fz_val, fz_mls, bl_k, dr_int, dr_bl, dr_non, dr_str, dr_tup, dr_lst, dr_dic, dr_tpx, tru_bl, tru_lst, tru_tup, cm_lt, cm_le, cm_gt, cm_ge, cm_eqi, cm_eqs, cm_nei, cm_nes, bn_add, bn_addt, bn_addl, bn_sub, bn_mulR, bn_mulL, bn_div, bn_mod, bi_lent, bi_lenl, bi_tupt, bi_tupl, bi_listt, bi_listl, bi_int, bi_sum, bi_all, ix_t, ix_l, ix_s, pt_no, pt_i, no_none, no_int, no_v, no_bin, no_neg, sl_t, sl_l, List.map_cons, List.map_nil, List.length_cons, List.length_nil, List.replicate, List.cons_append, List.nil_append, List.getElem?_cons_zero, List.getElem?_cons_succ, List.set_cons_zero, List.set_cons_succ, Option.bind_some, Option.map_some, Option.bind_none, Option.map_none, Nat.reduceAdd, Nat.reduceSub, Nat.reduceLT, Nat.reduceLeDiff, ↓reduceIte, reduceCtorEq, Bool.false_eq_true, Bool.true_and, Bool.and_true, Bool.false_and, Bool.and_false, Bool.not_true, Bool.not_false, if_true, if_false, hs1, h, decide_true, w, out_ret, trimM]
  · rw [if_neg h] at e2
    rw [e2] at w
    rw [e2]
    simp only [rel_bl, rel_int, rel_str, rel_non, rel_tup, rel_tpx, rel_lst, rel_dic, rel_mls, evSs, evS, evE, evEs, evB, evI, asgT, asgTs, rdV_k, rd_val, rd_mls, b2_k, bd_k, op_k, op_n, fz_val, fz_mls, bl_k, dr_int, dr_bl, dr_non, dr_str, dr_tup, dr_lst, dr_dic, dr_tpx, tru_bl, tru_lst, tru_tup, cm_lt, cm_le, cm_gt, cm_ge, cm_eqi, cm_eqs, cm_nei, cm_nes, bn_add, bn_addt, bn_addl, bn_sub, bn_mulR, bn_mulL, bn_div, bn_mod, bi_lent, bi_lenl, bi_tupt, bi_tupl, bi_listt, bi_listl, bi_int, bi_sum, bi_all, ix_t, ix_l, ix_s, pt_no, pt_i, no_none, no_int, no_v, no_bin, no_neg, sl_t, sl_l, List.map_cons, List.map_nil, List.length_cons, List.length_nil, List.replicate, List.cons_append, List.nil_append, List.getElem?_cons_zero, List.getElem?_cons_succ, List.set_cons_zero, List.set_cons_succ, Option.bind_some, Option.map_some, Option.bind_none, Option.map_none, Nat.reduceAdd, Nat.reduceSub, Nat.reduceLT, Nat.reduceLeDiff, ↓reduceIte, reduceCtorEq, Bool.false_eq_true, Bool.true_and, Bool.and_true, Bool.false_and, Bool.and_false, Bool.not_true, Bool.not_false, if_true, if_false, hs1, h, decide_false, w, out_ret, trimM]
/-- not a text: no name -/
theorem is_name_no (n : Nat) (v : D) (hv : isTy .str v = some false) (M : Mem) : calls fds dat (n + 1) 2 [v] M = .ok (.val (.bl false), M) := by
  show Ul.R fds dat _ _ _ _ = _
  rw [r_step (f := 2) (ar := 1) (ns := 2) (b := b2) rfl rfl]
  unfold b2
  simp only [rel_bl, rel_int, rel_str, rel_non, rel_tup, rel_tpx, rel_lst, rel_dic, rel_mls, evSs, evS, evE, evEs, evB, evI, asgT, asgTs, rdV_k, rd_val, rd_mls, b2_k, bd_k, op_k, op_n, fz_val, fz_mls, bl_k, dr_int, dr_bl, dr_non, dr_str, dr_tup, dr_lst, dr_dic, dr_tpx, tru_bl, tru_lst, tru_tup, cm_lt, cm_le, cm_gt, cm_ge, cm_eqi, cm_eqs, cm_nei, cm_nes, bn_add, bn_addt, bn_addl, bn_sub, bn_mulR, bn_mulL, bn_div, bn_mod, bi_lent, bi_lenl, bi_tupt, bi_tupl, bi_listt, bi_listl, bi_int, bi_sum, bi_all, ix_t, ix_l, ix_s, pt_no, pt_i, no_none, no_int, no_v, no_bin, no_neg, sl_t, sl_l, List.map_cons, List.map_nil, List.length_cons, List.length_nil, List.replicate, List.cons_append, List.nil_append, List.getElem?_cons_zero, List.getElem?_cons_succ, List.set_cons_zero, List.set_cons_succ, Option.bind_some, Option.map_some, Option.bind_none, Option.map_none, Nat.reduceAdd, Nat.reduceSub, Nat.reduceLT, Nat.reduceLeDiff, ↓reduceIte, reduceCtorEq, Bool.false_eq_true, Bool.true_and, Bool.and_true, Bool.false_and, Bool.and_false, Bool.not_true, Bool.not_false, if_true, if_false, hv, out_ret, trimM]
theorem law_name_no (n : Nat) (v : D) (hv : isTy .str v = some false) (M : Mem) : calls fds dat (n + 1) 23 [v] M = .ok (.val (.bl false), M) := by
  show Ul.R fds dat _ _ _ _ = _
  rw [r_step (f := 23) (ar := 1) (ns := 2) (b := b23) rfl rfl]
  unfold b23
  simp only [rel_bl, rel_int, rel_str, rel_non, rel_tup, rel_tpx, rel_lst, rel_dic, rel_mls, evSs, evS, evE, evEs, evB, evI, asgT, asgTs, rdV_k, rd_val, rd_mls, b2_k, bd_k, op_k, op_n, fz_val, fz_mls, bl_k, dr_int, dr_bl, dr_non, dr_str, dr_tup, dr_lst, dr_dic, dr_tpx, tru_bl, tru_lst, tru_tup, cm_lt, cm_le, cm_gt, cm_ge, cm_eqi, cm_eqs, cm_nei, cm_nes, bn_add, bn_addt, bn_addl, bn_sub, bn_mulR, bn_mulL, bn_div, bn_mod, bi_lent, bi_lenl, bi_tupt, bi_tupl, bi_listt, bi_listl, bi_int, bi_sum, bi_all, ix_t, ix_l, ix_s, pt_no, pt_i, no_none, no_int, no_v, no_bin, no_neg, sl_t, sl_l, List.map_cons, List.map_nil, List.length_cons, List.length_nil, List.replicate, List.cons_append, List.nil_append, List.getElem?_cons_zero, List.getElem?_cons_succ, List.set_cons_zero, List.set_cons_succ, Option.bind_some, Option.map_some, Option.bind_none, Option.map_none, Nat.reduceAdd, Nat.reduceSub, Nat.reduceLT, Nat.reduceLeDiff, ↓reduceIte, reduceCtorEq, Bool.false_eq_true, Bool.true_and, Bool.and_true, Bool.false_and, Bool.and_false, Bool.not_true, Bool.not_false, if_true, if_false, hv, out_ret, trimM]
/-- hidden -/
def isHid (x : Str) : Bool := decide (L2.cutS x none (some 1) = ("_" : Str)) || decide (L2.cutS x none (some 2) = ("@_" : Str))
theorem is_hidden (n : Nat) (x : Str) (hx : x.length ≤ 100) (M : Mem) : calls fds dat (n + 1) 5 [.str x] M = .ok (.val (.bl (isHid x)), M) := by
  show Ul.R fds dat _ _ _ _ = _
  rw [r_step (f := 5) (ar := 1) (ns := 1) (b := b5) rfl rfl]
  have hs := fun a b => sl_s (x := x) (sz_of hx) (a := a) (b := b)
  unfold b5 isHid
  cases h : decide (L2.cutS x none (some 1) = ("_" : Str)) <;> simp only [rel_bl, rel_int, rel_str, rel_non, rel_tup, rel_tpx, rel_lst, rel_dic, rel_mls, evSs, evS, evE, evEs, evB, evI, asgT, asgTs, rdV_k, rd_val, rd_mls, b2_k, bd_k, op_k, op_n, fz_val, fz_mls, bl_k, dr_int, dr_bl, dr_non, dr_str, dr_tup, dr_lst, dr_dic, dr_tpx, tru_bl, tru_lst, tru_tup, cm_lt, cm_le, cm_gt, cm_ge, cm_eqi, cm_eqs, cm_nei, cm_nes, bn_add, bn_addt, bn_addl, bn_sub, bn_mulR, bn_mulL, bn_div, bn_mod, bi_lent, bi_lenl, bi_tupt, bi_tupl, bi_listt, bi_listl, bi_int, bi_sum, bi_all, ix_t, ix_l, ix_s, pt_no, pt_i, no_none, no_int, no_v, no_bin, no_neg, sl_t, sl_l, List.map_cons, List.map_nil, List.length_cons, List.length_nil, List.replicate, List.cons_append, List.nil_append, List.getElem?_cons_zero, List.getElem?_cons_succ, List.set_cons_zero, List.set_cons_succ, Option.bind_some, Option.map_some, Option.bind_none, Option.map_none, Nat.reduceAdd, Nat.reduceSub, Nat.reduceLT, Nat.reduceLeDiff, ↓reduceIte, reduceCtorEq, Bool.false_eq_true, Bool.true_and, Bool.and_true, Bool.false_and, Bool.and_false, Bool.not_true, Bool.not_false, if_true, if_false, hs, h, out_ret, trimM, Bool.true_or, Bool.false_or]
def isFree : D → Bool
  | .str x => isName x && !isHid x
  | _ => false
theorem is_free_s (n : Nat) (x : Str) (hx : x.length ≤ 100) (M : Mem) : calls fds dat (n + 3) 6 [.str x] M = .ok (.val (.bl (isFree (.str x))), M) := by
  show Ul.R fds dat _ _ _ _ = _
  rw [r_step (f := 6) (ar := 1) (ns := 1) (b := b6) rfl rfl]
  have e1 := is_name n x hx M
  have e2 := is_hidden (n + 1) x hx M
  unfold b6 isFree
  cases h : isName x <;> rw [h] at e1 <;> simp only [rel_bl, rel_int, rel_str, rel_non, rel_tup, rel_tpx, rel_lst, rel_dic, rel_mls, evSs, evS, evE, evEs, evB, evI, asgT, asgTs, rdV_k, rd_val, rd_mls, b2_k, bd_k, op_k, op_n, fz_val, fz_mls, bl_k, dr_int, dr_bl, dr_non, dr_str, dr_tup, dr_lst, dr_dic, dr_tpx, tru_bl, tru_lst, tru_tup, cm_lt, cm_le, cm_gt, cm_ge, cm_eqi, cm_eqs, cm_nei, cm_nes, bn_add, bn_addt, bn_addl, bn_sub, bn_mulR, bn_mulL, bn_div, bn_mod, bi_lent, bi_lenl, bi_tupt, bi_tupl, bi_listt, bi_listl, bi_int, bi_sum, bi_all, ix_t, ix_l, ix_s, pt_no, pt_i, no_none, no_int, no_v, no_bin, no_neg, sl_t, sl_l, List.map_cons, List.map_nil, List.length_cons, List.length_nil, List.replicate, List.cons_append, List.nil_append, List.getElem?_cons_zero, List.getElem?_cons_succ, List.set_cons_zero, List.set_cons_succ, Option.bind_some, Option.map_some, Option.bind_none, Option.map_none, Nat.reduceAdd, Nat.reduceSub, Nat.reduceLT, Nat.reduceLeDiff, ↓reduceIte, reduceCtorEq, Bool.false_eq_true, Bool.true_and, Bool.and_true, Bool.false_and, Bool.and_false, Bool.not_true, Bool.not_false, if_true, if_false, e1, e2, h, out_ret, trimM]
theorem is_free_no (n : Nat) (v : D) (hv : isTy .str v = some false) (M : Mem) : calls fds dat (n + 2) 6 [v] M = .ok (.val (.bl false), M) := by
  show Ul.R fds dat _ _ _ _ = _
  rw [r_step (f := 6) (ar := 1) (ns := 1) (b := b6) rfl rfl]
  have e1 := is_name_no n v hv M
  unfold b6
  simp only [rel_bl, rel_int, rel_str, rel_non, rel_tup, rel_tpx, rel_lst, rel_dic, rel_mls, evSs, evS, evE, evEs, evB, evI, asgT, asgTs, rdV_k, rd_val, rd_mls, b2_k, bd_k, op_k, op_n, fz_val, fz_mls, bl_k, dr_int, dr_bl, dr_non, dr_str, dr_tup, dr_lst, dr_dic, dr_tpx, tru_bl, tru_lst, tru_tup, cm_lt, cm_le, cm_gt, cm_ge, cm_eqi, cm_eqs, cm_nei, cm_nes, bn_add, bn_addt, bn_addl, bn_sub, bn_mulR, bn_mulL, bn_div, bn_mod, bi_lent, bi_lenl, bi_tupt, bi_tupl, bi_listt, bi_listl, bi_int, bi_sum, bi_all, ix_t, ix_l, ix_s, pt_no, pt_i, no_none, no_int, no_v, no_bin, no_neg, sl_t, sl_l, List.map_cons, List.map_nil, List.length_cons, List.length_nil, List.replicate, List.cons_append, List.nil_append, List.getElem?_cons_zero, List.getElem?_cons_succ, List.set_cons_zero, List.set_cons_succ, Option.bind_some, Option.map_some, Option.bind_none, Option.map_none, Nat.reduceAdd, Nat.reduceSub, Nat.reduceLT, Nat.reduceLeDiff, ↓reduceIte, reduceCtorEq, Bool.false_eq_true, Bool.true_and, Bool.and_true, Bool.false_and, Bool.and_false, Bool.not_true, Bool.not_false, if_true, if_false, e1, out_ret, trimM]
end K00


set_option Elab.async false
set_option linter.all false
set_option maxRecDepth 100000
set_option maxHeartbeats 4000000
namespace K00
open PySem Ev Ul
theorem str_iff (a b : Str) : a = b ↔ a.cps.toList = b.cps.toList := ⟨fun h => by rw [h], PySem.W.str_of_cps⟩
theorem cps_take (x : Str) (k : Nat) : (L2.cutS x none (some (k : Int))).cps.toList = x.cps.toList.take k := by
  unfold L2.cutS
  rw [HT.sIx_nat, HT.sIx_none, List.drop_zero, Nat.sub_zero, str_len]
  show (List.take (min k x.cps.toList.length) x.cps.toList) = _
  rw [← List.take_eq_take_min]
theorem cps_drop1 (x : Str) : (L2.cutS x (some 1) none).cps.toList = x.cps.toList.drop 1 := by
  unfold L2.cutS
  rw [show (1 : Int) = ((1 : Nat) : Int) from rfl, HT.sIx_nat, HT.sIx_none, str_len]
  show List.take (x.cps.toList.length - min 1 x.cps.toList.length) (List.drop (min 1 x.cps.toList.length) x.cps.toList) = _
  cases x.cps.toList with
  | nil => rfl
  | cons a l =>
    have : min 1 (a :: l).length = 1 := by simp only [List.length_cons]; omega
    rw [this]
    exact List.take_of_length_le (by simp)
def stripL (c : Nat) (l : List Nat) : List Nat := if l.take 1 = [c] then l.drop 1 else l
theorem strip_cps (c : Nat) (s : Str) (hs : s.cps.toList = [c]) (x : Str) : (strip s x).cps.toList = stripL c x.cps.toList := by
  unfold strip stripL
  have e := cps_take x 1
  have : (L2.cutS x none (some 1) = s) ↔ x.cps.toList.take 1 = [c] := by
    rw [str_iff, hs]
    show (L2.cutS x none (some ((1 : Nat) : Int))).cps.toList = [c] ↔ _
    rw [e]
  by_cases h : x.cps.toList.take 1 = [c]
  · rw [if_pos (this.mpr h), if_pos h, cps_drop1]
  · rw [if_neg (fun z => h (this.mp z)), if_neg h]
theorem at_cps : ("@" : Str).cps.toList = [64] := by decide +kernel
theorem us_cps : ("_" : Str).cps.toList = [95] := by decide +kernel
theorem au_cps : ("@_" : Str).cps.toList = [64, 95] := by decide +kernel
theorem name_cps (x : Str) : isName x = isWordL (stripL 95 (stripL 64 x.cps.toList)) := by
  unfold isName isWord
  rw [strip_cps 95 _ us_cps, strip_cps 64 _ at_cps]
theorem hid_cps (x : Str) : isHid x = (decide (x.cps.toList.take 1 = [95]) || decide (x.cps.toList.take 2 = [64, 95])) := by
  unfold isHid
  have e1 : (L2.cutS x none (some 1) = ("_" : Str)) ↔ x.cps.toList.take 1 = [95] := by
    rw [str_iff, us_cps]
    show (L2.cutS x none (some ((1 : Nat) : Int))).cps.toList = [95] ↔ _
    rw [cps_take]
  have e2 : (L2.cutS x none (some 2) = ("@_" : Str)) ↔ x.cps.toList.take 2 = [64, 95] := by
    rw [str_iff, au_cps]
    show (L2.cutS x none (some ((2 : Nat) : Int))).cps.toList = [64, 95] ↔ _
    rw [cps_take]
  simp only [e1, e2]
theorem no95 : decide (95 ∈ SIGS.cps.toList) = false := by decide +kernel
theorem word_no {w : List Nat} (h : isWordL w = true) : 95 ∉ w ∧ w ≠ [] := by
  unfold isWordL at h
  simp only [Bool.and_eq_true, decide_eq_true_eq, List.all_eq_true] at h
  refine ⟨fun m => ?_, fun e => by rw [e] at h; simp at h⟩
  have := h.2.2.2 95 m
  exact absurd this (of_decide_eq_false no95)
theorem hid_in {x : Str} (h : isName x = true) : isHid x = decide (95 ∈ x.cps.toList) := by
  rw [name_cps] at h
  rw [hid_cps]
  obtain ⟨h1, h2⟩ := word_no h
  cases hl : x.cps.toList with
  | nil => rfl
  | cons a t =>
    rw [hl] at h1 h2
    by_cases ha : a = 64
    · subst ha
      have e1 : stripL 64 (64 :: t) = t := by unfold stripL; simp
      rw [e1] at h1 h2
      cases t with
      | nil => simp
      | cons b u =>
        by_cases hb : b = 95
        · subst hb
          simp
        · have e2 : stripL 95 (b :: u) = b :: u := by unfold stripL; simp [hb]
          rw [e2] at h1
          have h3 : decide (95 ∈ 64 :: b :: u) = false := decide_eq_false (by
            intro m
            rcases List.mem_cons.mp m with m | m
            · cases m
            · exact h1 m)
          rw [h3]
          simp [hb]
    · have e1 : stripL 64 (a :: t) = a :: t := by unfold stripL; simp [ha]
      rw [e1] at h1 h2
      by_cases hb : a = 95
      · subst hb
        simp
      · have e2 : stripL 95 (a :: t) = a :: t := by unfold stripL; simp [hb]
        rw [e2] at h1
        have h3 : decide (95 ∈ a :: t) = false := decide_eq_false h1
        rw [h3]
        simp [hb, ha]
theorem us_occ (x : Str) : occS ("_" : Str) x = decide (95 ∈ x.cps.toList) := by
  have : ("_" : Str) = ⟨#[95]⟩ := PySem.W.str_of_cps (by rw [us_cps])
  rw [this]
  exact occ1 95 x
/-- free: a name without that sign -/
theorem free_eq (x : Str) : isFree (.str x) = (isName x && !occS ("_" : Str) x) := by
  show (isName x && !isHid x) = _
  cases h : isName x with
  | false => rfl
  | true => rw [us_occ, hid_in h]
/-- a free text has a first sign -/
theorem name_ne {x : Str} (h : isName x = true) : ∃ c l, x.cps.toList = c :: l := by
  rw [name_cps] at h
  cases hl : x.cps.toList with
  | nil => rw [hl] at h; cases h
  | cons a t => exact ⟨a, t, rfl⟩
end K00


set_option Elab.async false
set_option linter.all false
set_option maxRecDepth 100000
set_option maxHeartbeats 4000000
namespace K00
open PySem Ev Ul
/-- values that are judged -/
def Vd : D → Prop
  | .non => True
  | .bl _ => True
  | .int _ => True
  | .str x => x.length ≤ 100
  | .tup _ => True
  | .tpx _ => True
  | _ => False
theorem pv_vd {m e : Nat} {d : D} (h : PV m e d) : Vd d := by
  cases e <;> cases d <;> first | trivial | exact h
theorem vd_nr {d : D} (h : Vd d) : ∀ k, d ≠ .ref k := fun k z => by subst z; exact h
def isIntD : D → Bool
  | .int _ => true
  | _ => false
def nameD : D → Bool
  | .str x => isName x
  | _ => false
def wordD : D → Bool
  | .str x => isWord x
  | _ => false
/-- the first sign -/
def hd64 (x : Str) : Bool := decide (x.cps.toList.headD 0 = 64)
theorem at_ne {x : Str} {c : Nat} {l : List Nat} (h : x.cps.toList = c :: l) : decide ((⟨#[c]⟩ : Str) = ("@" : Str)) = hd64 x := by
  unfold hd64
  rw [h]
  show _ = decide (c = 64)
  have : ((⟨#[c]⟩ : Str) = ("@" : Str)) ↔ c = 64 := by
    rw [str_iff, at_cps]
    show [c] = [64] ↔ _
    simp
  simp only [this]
def ptrD : D → Bool
  | .str x => isName x && hd64 x
  | _ => false
def numD : D → Bool
  | .str x => isName x && !hd64 x
  | _ => false
def zeroD : D → Bool
  | .int i => decide (i = 0)
  | _ => false
def hidD : D → Bool
  | .str x => isName x && occS ("_" : Str) x
  | _ => false
section
variable (n : Nat) (d : D) (h : Vd d) (M : Mem)
include h
theorem is_int : calls fds dat (n + 1) 0 [d] M = .ok (.val (.bl (isIntD d)), M) := by
  show Ul.R fds dat _ _ _ _ = _
  rw [r_step (f := 0) (ar := 1) (ns := 1) (b := b0) rfl rfl]
  unfold b0
  cases d <;> first | exact h.elim | (simp only [rel_bl, rel_int, rel_str, rel_non, rel_tup, rel_tpx, rel_lst, rel_dic, rel_mls, evSs, evS, evE, evEs, evB, evI, asgT, asgTs, rdV_k, rd_val, rd_mls, b2_k, bd_k, op_k, op_n, fz_val, fz_mls, bl_k, dr_int, dr_bl, dr_non, dr_str, dr_tup, dr_lst, dr_dic, dr_tpx, tru_bl, tru_lst, tru_tup, cm_lt, cm_le, cm_gt, cm_ge, cm_eqi, cm_eqs, cm_nei, cm_nes, bn_add, bn_addt, bn_addl, bn_sub, bn_mulR, bn_mulL, bn_div, bn_mod, bi_lent, bi_lenl, bi_tupt, bi_tupl, bi_listt, bi_listl, bi_int, bi_sum, bi_all, ix_t, ix_l, ix_s, pt_no, pt_i, no_none, no_int, no_v, no_bin, no_neg, sl_t, sl_l, List.map_cons, List.map_nil, List.length_cons, List.length_nil, List.replicate, List.cons_append, List.nil_append, List.getElem?_cons_zero, List.getElem?_cons_succ, List.set_cons_zero, List.set_cons_succ, Option.bind_some, Option.map_some, Option.bind_none, Option.map_none, Nat.reduceAdd, Nat.reduceSub, Nat.reduceLT, Nat.reduceLeDiff, ↓reduceIte, reduceCtorEq, Bool.false_eq_true, Bool.true_and, Bool.and_true, Bool.false_and, Bool.and_false, Bool.not_true, Bool.not_false, if_true, if_false, isTy, isIntD, out_ret, trimM])
theorem law_int : calls fds dat (n + 1) 24 [d] M = .ok (.val (.bl (isIntD d)), M) := by
  show Ul.R fds dat _ _ _ _ = _
  rw [r_step (f := 24) (ar := 1) (ns := 1) (b := b24) rfl rfl]
  unfold b24
  cases d <;> first | exact h.elim | (simp only [rel_bl, rel_int, rel_str, rel_non, rel_tup, rel_tpx, rel_lst, rel_dic, rel_mls, evSs, evS, evE, evEs, evB, evI, asgT, asgTs, rdV_k, rd_val, rd_mls, b2_k, bd_k, op_k, op_n, fz_val, fz_mls, bl_k, dr_int, dr_bl, dr_non, dr_str, dr_tup, dr_lst, dr_dic, dr_tpx, tru_bl, tru_lst, tru_tup, cm_lt, cm_le, cm_gt, cm_ge, cm_eqi, cm_eqs, cm_nei, cm_nes, bn_add, bn_addt, bn_addl, bn_sub, bn_mulR, bn_mulL, bn_div, bn_mod, bi_lent, bi_lenl, bi_tupt, bi_tupl, bi_listt, bi_listl, bi_int, bi_sum, bi_all, ix_t, ix_l, ix_s, pt_no, pt_i, no_none, no_int, no_v, no_bin, no_neg, sl_t, sl_l, List.map_cons, List.map_nil, List.length_cons, List.length_nil, List.replicate, List.cons_append, List.nil_append, List.getElem?_cons_zero, List.getElem?_cons_succ, List.set_cons_zero, List.set_cons_succ, Option.bind_some, Option.map_some, Option.bind_none, Option.map_none, Nat.reduceAdd, Nat.reduceSub, Nat.reduceLT, Nat.reduceLeDiff, ↓reduceIte, reduceCtorEq, Bool.false_eq_true, Bool.true_and, Bool.and_true, Bool.false_and, Bool.and_false, Bool.not_true, Bool.not_false, if_true, if_false, isTy, isIntD, out_ret, trimM])
theorem word_d : calls fds dat (n + 1) 1 [d] M = .ok (.val (.bl (wordD d)), M) := by
  cases d
  case str x => exact is_word n x h M
  all_goals show Ul.R fds dat _ _ _ _ = _
  all_goals rw [r_step (f := 1) (ar := 1) (ns := 2) (b := b1) rfl rfl]
  all_goals unfold b1
  all_goals first | exact h.elim | (simp only [rel_bl, rel_int, rel_str, rel_non, rel_tup, rel_tpx, rel_lst, rel_dic, rel_mls, evSs, evS, evE, evEs, evB, evI, asgT, asgTs, rdV_k, rd_val, rd_mls, b2_k, bd_k, op_k, op_n, fz_val, fz_mls, bl_k, dr_int, dr_bl, dr_non, dr_str, dr_tup, dr_lst, dr_dic, dr_tpx, tru_bl, tru_lst, tru_tup, cm_lt, cm_le, cm_gt, cm_ge, cm_eqi, cm_eqs, cm_nei, cm_nes, bn_add, bn_addt, bn_addl, bn_sub, bn_mulR, bn_mulL, bn_div, bn_mod, bi_lent, bi_lenl, bi_tupt, bi_tupl, bi_listt, bi_listl, bi_int, bi_sum, bi_all, ix_t, ix_l, ix_s, pt_no, pt_i, no_none, no_int, no_v, no_bin, no_neg, sl_t, sl_l, List.map_cons, List.map_nil, List.length_cons, List.length_nil, List.replicate, List.cons_append, List.nil_append, List.getElem?_cons_zero, List.getElem?_cons_succ, List.set_cons_zero, List.set_cons_succ, Option.bind_some, Option.map_some, Option.bind_none, Option.map_none, Nat.reduceAdd, Nat.reduceSub, Nat.reduceLT, Nat.reduceLeDiff, ↓reduceIte, reduceCtorEq, Bool.false_eq_true, Bool.true_and, Bool.and_true, Bool.false_and, Bool.and_false, Bool.not_true, Bool.not_false, if_true, if_false, isTy, wordD, out_ret, trimM])
theorem lword_d : calls fds dat (n + 1) 22 [d] M = .ok (.val (.bl (wordD d)), M) := by
  cases d
  case str x => exact law_word n x h M
  all_goals show Ul.R fds dat _ _ _ _ = _
  all_goals rw [r_step (f := 22) (ar := 1) (ns := 3) (b := b22) rfl rfl]
  all_goals unfold b22
  all_goals first | exact h.elim | (simp only [rel_bl, rel_int, rel_str, rel_non, rel_tup, rel_tpx, rel_lst, rel_dic, rel_mls, evSs, evS, evE, evEs, evB, evI, asgT, asgTs, rdV_k, rd_val, rd_mls, b2_k, bd_k, op_k, op_n, fz_val, fz_mls, bl_k, dr_int, dr_bl, dr_non, dr_str, dr_tup, dr_lst, dr_dic, dr_tpx, tru_bl, tru_lst, tru_tup, cm_lt, cm_le, cm_gt, cm_ge, cm_eqi, cm_eqs, cm_nei, cm_nes, bn_add, bn_addt, bn_addl, bn_sub, bn_mulR, bn_mulL, bn_div, bn_mod, bi_lent, bi_lenl, bi_tupt, bi_tupl, bi_listt, bi_listl, bi_int, bi_sum, bi_all, ix_t, ix_l, ix_s, pt_no, pt_i, no_none, no_int, no_v, no_bin, no_neg, sl_t, sl_l, List.map_cons, List.map_nil, List.length_cons, List.length_nil, List.replicate, List.cons_append, List.nil_append, List.getElem?_cons_zero, List.getElem?_cons_succ, List.set_cons_zero, List.set_cons_succ, Option.bind_some, Option.map_some, Option.bind_none, Option.map_none, Nat.reduceAdd, Nat.reduceSub, Nat.reduceLT, Nat.reduceLeDiff, ↓reduceIte, reduceCtorEq, Bool.false_eq_true, Bool.true_and, Bool.and_true, Bool.false_and, Bool.and_false, Bool.not_true, Bool.not_false, if_true, if_false, isTy, wordD, out_ret, trimM])
theorem name_d : calls fds dat (n + 2) 2 [d] M = .ok (.val (.bl (nameD d)), M) := by
  cases d
  case str x => exact is_name n x h M
  all_goals first | exact h.elim | exact is_name_no (n + 1) _ rfl M
theorem lname_d : calls fds dat (n + 2) 23 [d] M = .ok (.val (.bl (nameD d)), M) := by
  cases d
  case str x => exact law_name n x h M
  all_goals first | exact h.elim | exact law_name_no (n + 1) _ rfl M
theorem free_d : calls fds dat (n + 3) 6 [d] M = .ok (.val (.bl (isFree d)), M) := by
  cases d
  case str x => exact is_free_s n x h M
  all_goals first | exact h.elim | exact is_free_no (n + 1) _ rfl M
end
theorem at_first {x : Str} (hx : x.length ≤ 100) (hn : isName x = true) : ∃ c, strAt x 0 = some (.str ⟨#[c]⟩) ∧ decide ((⟨#[c]⟩ : Str) = ("@" : Str)) = hd64 x := by
  obtain ⟨c, l, hc⟩ := name_ne hn
  exact ⟨c, at_s hc hx, at_ne hc⟩
section
variable (n : Nat) (d : D) (h : Vd d) (M : Mem)
include h
theorem ptr_d : calls fds dat (n + 3) 3 [d] M = .ok (.val (.bl (ptrD d)), M) := by
  have e := name_d n d h M
  show Ul.R fds dat _ _ _ _ = _
  rw [r_step (f := 3) (ar := 1) (ns := 1) (b := b3) rfl rfl]
  unfold b3
  cases d
  case str x =>
    cases hn : isName x with
    | false =>
      rw [show nameD (.str x) = false from hn] at e
      rw [show ptrD (.str x) = false by show (isName x && hd64 x) = false; rw [hn]; rfl]
      simp only [rel_bl, rel_int, rel_str, rel_non, rel_tup, rel_tpx, rel_lst, rel_dic, rel_mls, evSs, evS, evE, evEs, evB, evI, asgT, asgTs, rdV_k, rd_val, rd_mls, b2_k, bd_k, op_k, op_n, fz_val, fz_mls, bl_k, dr_int, dr_bl, dr_non, dr_str, dr_tup, dr_lst, dr_dic, dr_tpx, tru_bl, tru_lst, tru_tup, cm_lt, cm_le, cm_gt, cm_ge, cm_eqi, cm_eqs, cm_nei, cm_nes, bn_add, bn_addt, bn_addl, bn_sub, bn_mulR, bn_mulL, bn_div, bn_mod, bi_lent, bi_lenl, bi_tupt, bi_tupl, bi_listt, bi_listl, bi_int, bi_sum, bi_all, ix_t, ix_l, ix_s, pt_no, pt_i, no_none, no_int, no_v, no_bin, no_neg, sl_t, sl_l, List.map_cons, List.map_nil, List.length_cons, List.length_nil, List.replicate, List.cons_append, List.nil_append, List.getElem?_cons_zero, List.getElem?_cons_succ, List.set_cons_zero, List.set_cons_succ, Option.bind_some, Option.map_some, Option.bind_none, Option.map_none, Nat.reduceAdd, Nat.reduceSub, Nat.reduceLT, Nat.reduceLeDiff, ↓reduceIte, reduceCtorEq, Bool.false_eq_true, Bool.true_and, Bool.and_true, Bool.false_and, Bool.and_false, Bool.not_true, Bool.not_false, if_true, if_false, e, out_ret, trimM]
    | true =>
      obtain ⟨c, a1, a2⟩ := at_first h hn
      rw [show nameD (.str x) = true from hn] at e
      rw [show ptrD (.str x) = hd64 x by show (isName x && hd64 x) = _; rw [hn]; rfl]
      simp only [rel_bl, rel_int, rel_str, rel_non, rel_tup, rel_tpx, rel_lst, rel_dic, rel_mls, evSs, evS, evE, evEs, evB, evI, asgT, asgTs, rdV_k, rd_val, rd_mls, b2_k, bd_k, op_k, op_n, fz_val, fz_mls, bl_k, dr_int, dr_bl, dr_non, dr_str, dr_tup, dr_lst, dr_dic, dr_tpx, tru_bl, tru_lst, tru_tup, cm_lt, cm_le, cm_gt, cm_ge, cm_eqi, cm_eqs, cm_nei, cm_nes, bn_add, bn_addt, bn_addl, bn_sub, bn_mulR, bn_mulL, bn_div, bn_mod, bi_lent, bi_lenl, bi_tupt, bi_tupl, bi_listt, bi_listl, bi_int, bi_sum, bi_all, ix_t, ix_l, ix_s, pt_no, pt_i, no_none, no_int, no_v, no_bin, no_neg, sl_t, sl_l, List.map_cons, List.map_nil, List.length_cons, List.length_nil, List.replicate, List.cons_append, List.nil_append, List.getElem?_cons_zero, List.getElem?_cons_succ, List.set_cons_zero, List.set_cons_succ, Option.bind_some, Option.map_some, Option.bind_none, Option.map_none, Nat.reduceAdd, Nat.reduceSub, Nat.reduceLT, Nat.reduceLeDiff, ↓reduceIte, reduceCtorEq, Bool.false_eq_true, Bool.true_and, Bool.and_true, Bool.false_and, Bool.and_false, Bool.not_true, Bool.not_false, if_true, if_false, e, a1, a2, out_ret, trimM]
  all_goals first | exact h.elim | (simp only [nameD] at e; simp only [rel_bl, rel_int, rel_str, rel_non, rel_tup, rel_tpx, rel_lst, rel_dic, rel_mls, evSs, evS, evE, evEs, evB, evI, asgT, asgTs, rdV_k, rd_val, rd_mls, b2_k, bd_k, op_k, op_n, fz_val, fz_mls, bl_k, dr_int, dr_bl, dr_non, dr_str, dr_tup, dr_lst, dr_dic, dr_tpx, tru_bl, tru_lst, tru_tup, cm_lt, cm_le, cm_gt, cm_ge, cm_eqi, cm_eqs, cm_nei, cm_nes, bn_add, bn_addt, bn_addl, bn_sub, bn_mulR, bn_mulL, bn_div, bn_mod, bi_lent, bi_lenl, bi_tupt, bi_tupl, bi_listt, bi_listl, bi_int, bi_sum, bi_all, ix_t, ix_l, ix_s, pt_no, pt_i, no_none, no_int, no_v, no_bin, no_neg, sl_t, sl_l, List.map_cons, List.map_nil, List.length_cons, List.length_nil, List.replicate, List.cons_append, List.nil_append, List.getElem?_cons_zero, List.getElem?_cons_succ, List.set_cons_zero, List.set_cons_succ, Option.bind_some, Option.map_some, Option.bind_none, Option.map_none, Nat.reduceAdd, Nat.reduceSub, Nat.reduceLT, Nat.reduceLeDiff, ↓reduceIte, reduceCtorEq, Bool.false_eq_true, Bool.true_and, Bool.and_true, Bool.false_and, Bool.and_false, Bool.not_true, Bool.not_false, if_true, if_false, e, ptrD, out_ret, trimM])
theorem num_d : calls fds dat (n + 3) 4 [d] M = .ok (.val (.bl (numD d)), M) := by
  have e := name_d n d h M
  show Ul.R fds dat _ _ _ _ = _
  rw [r_step (f := 4) (ar := 1) (ns := 1) (b := b4) rfl rfl]
  unfold b4
  cases d
  case str x =>
    cases hn : isName x with
    | false =>
      rw [show nameD (.str x) = false from hn] at e
      rw [show numD (.str x) = false by show (isName x && !hd64 x) = false; rw [hn]; rfl]
      simp only [rel_bl, rel_int, rel_str, rel_non, rel_tup, rel_tpx, rel_lst, rel_dic, rel_mls, evSs, evS, evE, evEs, evB, evI, asgT, asgTs, rdV_k, rd_val, rd_mls, b2_k, bd_k, op_k, op_n, fz_val, fz_mls, bl_k, dr_int, dr_bl, dr_non, dr_str, dr_tup, dr_lst, dr_dic, dr_tpx, tru_bl, tru_lst, tru_tup, cm_lt, cm_le, cm_gt, cm_ge, cm_eqi, cm_eqs, cm_nei, cm_nes, bn_add, bn_addt, bn_addl, bn_sub, bn_mulR, bn_mulL, bn_div, bn_mod, bi_lent, bi_lenl, bi_tupt, bi_tupl, bi_listt, bi_listl, bi_int, bi_sum, bi_all, ix_t, ix_l, ix_s, pt_no, pt_i, no_none, no_int, no_v, no_bin, no_neg, sl_t, sl_l, List.map_cons, List.map_nil, List.length_cons, List.length_nil, List.replicate, List.cons_append, List.nil_append, List.getElem?_cons_zero, List.getElem?_cons_succ, List.set_cons_zero, List.set_cons_succ, Option.bind_some, Option.map_some, Option.bind_none, Option.map_none, Nat.reduceAdd, Nat.reduceSub, Nat.reduceLT, Nat.reduceLeDiff, ↓reduceIte, reduceCtorEq, Bool.false_eq_true, Bool.true_and, Bool.and_true, Bool.false_and, Bool.and_false, Bool.not_true, Bool.not_false, if_true, if_false, e, out_ret, trimM]
    | true =>
      obtain ⟨c, a1, a2⟩ := at_first h hn
      rw [show nameD (.str x) = true from hn] at e
      rw [show numD (.str x) = !hd64 x by show (isName x && !hd64 x) = _; rw [hn]; rfl]
      simp only [rel_bl, rel_int, rel_str, rel_non, rel_tup, rel_tpx, rel_lst, rel_dic, rel_mls, evSs, evS, evE, evEs, evB, evI, asgT, asgTs, rdV_k, rd_val, rd_mls, b2_k, bd_k, op_k, op_n, fz_val, fz_mls, bl_k, dr_int, dr_bl, dr_non, dr_str, dr_tup, dr_lst, dr_dic, dr_tpx, tru_bl, tru_lst, tru_tup, cm_lt, cm_le, cm_gt, cm_ge, cm_eqi, cm_eqs, cm_nei, cm_nes, bn_add, bn_addt, bn_addl, bn_sub, bn_mulR, bn_mulL, bn_div, bn_mod, bi_lent, bi_lenl, bi_tupt, bi_tupl, bi_listt, bi_listl, bi_int, bi_sum, bi_all, ix_t, ix_l, ix_s, pt_no, pt_i, no_none, no_int, no_v, no_bin, no_neg, sl_t, sl_l, List.map_cons, List.map_nil, List.length_cons, List.length_nil, List.replicate, List.cons_append, List.nil_append, List.getElem?_cons_zero, List.getElem?_cons_succ, List.set_cons_zero, List.set_cons_succ, Option.bind_some, Option.map_some, Option.bind_none, Option.map_none, Nat.reduceAdd, Nat.reduceSub, Nat.reduceLT, Nat.reduceLeDiff, ↓reduceIte, reduceCtorEq, Bool.false_eq_true, Bool.true_and, Bool.and_true, Bool.false_and, Bool.and_false, Bool.not_true, Bool.not_false, if_true, if_false, e, a1, a2, out_ret, trimM]
  all_goals first | exact h.elim | (simp only [nameD] at e; simp only [rel_bl, rel_int, rel_str, rel_non, rel_tup, rel_tpx, rel_lst, rel_dic, rel_mls, evSs, evS, evE, evEs, evB, evI, asgT, asgTs, rdV_k, rd_val, rd_mls, b2_k, bd_k, op_k, op_n, fz_val, fz_mls, bl_k, dr_int, dr_bl, dr_non, dr_str, dr_tup, dr_lst, dr_dic, dr_tpx, tru_bl, tru_lst, tru_tup, cm_lt, cm_le, cm_gt, cm_ge, cm_eqi, cm_eqs, cm_nei, cm_nes, bn_add, bn_addt, bn_addl, bn_sub, bn_mulR, bn_mulL, bn_div, bn_mod, bi_lent, bi_lenl, bi_tupt, bi_tupl, bi_listt, bi_listl, bi_int, bi_sum, bi_all, ix_t, ix_l, ix_s, pt_no, pt_i, no_none, no_int, no_v, no_bin, no_neg, sl_t, sl_l, List.map_cons, List.map_nil, List.length_cons, List.length_nil, List.replicate, List.cons_append, List.nil_append, List.getElem?_cons_zero, List.getElem?_cons_succ, List.set_cons_zero, List.set_cons_succ, Option.bind_some, Option.map_some, Option.bind_none, Option.map_none, Nat.reduceAdd, Nat.reduceSub, Nat.reduceLT, Nat.reduceLeDiff, ↓reduceIte, reduceCtorEq, Bool.false_eq_true, Bool.true_and, Bool.and_true, Bool.false_and, Bool.and_false, Bool.not_true, Bool.not_false, if_true, if_false, e, numD, out_ret, trimM])
theorem pterm_d : calls fds dat (n + 4) 7 [d] M = .ok (.val (.bl (ptrD d || zeroD d)), M) := by
  have e := ptr_d n d h M
  have e2 := is_int (n + 2) d h M
  show Ul.R fds dat _ _ _ _ = _
  rw [r_step (f := 7) (ar := 1) (ns := 1) (b := b7) rfl rfl]
  unfold b7
  cases d
  case str x =>
    simp only [isIntD] at e2
    cases hp : ptrD (.str x) <;> rw [hp] at e <;> simp only [rel_bl, rel_int, rel_str, rel_non, rel_tup, rel_tpx, rel_lst, rel_dic, rel_mls, evSs, evS, evE, evEs, evB, evI, asgT, asgTs, rdV_k, rd_val, rd_mls, b2_k, bd_k, op_k, op_n, fz_val, fz_mls, bl_k, dr_int, dr_bl, dr_non, dr_str, dr_tup, dr_lst, dr_dic, dr_tpx, tru_bl, tru_lst, tru_tup, cm_lt, cm_le, cm_gt, cm_ge, cm_eqi, cm_eqs, cm_nei, cm_nes, bn_add, bn_addt, bn_addl, bn_sub, bn_mulR, bn_mulL, bn_div, bn_mod, bi_lent, bi_lenl, bi_tupt, bi_tupl, bi_listt, bi_listl, bi_int, bi_sum, bi_all, ix_t, ix_l, ix_s, pt_no, pt_i, no_none, no_int, no_v, no_bin, no_neg, sl_t, sl_l, List.map_cons, List.map_nil, List.length_cons, List.length_nil, List.replicate, List.cons_append, List.nil_append, List.getElem?_cons_zero, List.getElem?_cons_succ, List.set_cons_zero, List.set_cons_succ, Option.bind_some, Option.map_some, Option.bind_none, Option.map_none, Nat.reduceAdd, Nat.reduceSub, Nat.reduceLT, Nat.reduceLeDiff, ↓reduceIte, reduceCtorEq, Bool.false_eq_true, Bool.true_and, Bool.and_true, Bool.false_and, Bool.and_false, Bool.not_true, Bool.not_false, if_true, if_false, e, e2, zeroD, out_ret, trimM, Bool.true_or, Bool.false_or]
  case int i =>
    simp only [isIntD] at e2
    simp only [ptrD] at e
    simp only [rel_bl, rel_int, rel_str, rel_non, rel_tup, rel_tpx, rel_lst, rel_dic, rel_mls, evSs, evS, evE, evEs, evB, evI, asgT, asgTs, rdV_k, rd_val, rd_mls, b2_k, bd_k, op_k, op_n, fz_val, fz_mls, bl_k, dr_int, dr_bl, dr_non, dr_str, dr_tup, dr_lst, dr_dic, dr_tpx, tru_bl, tru_lst, tru_tup, cm_lt, cm_le, cm_gt, cm_ge, cm_eqi, cm_eqs, cm_nei, cm_nes, bn_add, bn_addt, bn_addl, bn_sub, bn_mulR, bn_mulL, bn_div, bn_mod, bi_lent, bi_lenl, bi_tupt, bi_tupl, bi_listt, bi_listl, bi_int, bi_sum, bi_all, ix_t, ix_l, ix_s, pt_no, pt_i, no_none, no_int, no_v, no_bin, no_neg, sl_t, sl_l, List.map_cons, List.map_nil, List.length_cons, List.length_nil, List.replicate, List.cons_append, List.nil_append, List.getElem?_cons_zero, List.getElem?_cons_succ, List.set_cons_zero, List.set_cons_succ, Option.bind_some, Option.map_some, Option.bind_none, Option.map_none, Nat.reduceAdd, Nat.reduceSub, Nat.reduceLT, Nat.reduceLeDiff, ↓reduceIte, reduceCtorEq, Bool.false_eq_true, Bool.true_and, Bool.and_true, Bool.false_and, Bool.and_false, Bool.not_true, Bool.not_false, if_true, if_false, e, e2, zeroD, ptrD, out_ret, trimM, Bool.false_or]
  all_goals first | exact h.elim | (simp only [isIntD] at e2; simp only [ptrD] at e; simp only [rel_bl, rel_int, rel_str, rel_non, rel_tup, rel_tpx, rel_lst, rel_dic, rel_mls, evSs, evS, evE, evEs, evB, evI, asgT, asgTs, rdV_k, rd_val, rd_mls, b2_k, bd_k, op_k, op_n, fz_val, fz_mls, bl_k, dr_int, dr_bl, dr_non, dr_str, dr_tup, dr_lst, dr_dic, dr_tpx, tru_bl, tru_lst, tru_tup, cm_lt, cm_le, cm_gt, cm_ge, cm_eqi, cm_eqs, cm_nei, cm_nes, bn_add, bn_addt, bn_addl, bn_sub, bn_mulR, bn_mulL, bn_div, bn_mod, bi_lent, bi_lenl, bi_tupt, bi_tupl, bi_listt, bi_listl, bi_int, bi_sum, bi_all, ix_t, ix_l, ix_s, pt_no, pt_i, no_none, no_int, no_v, no_bin, no_neg, sl_t, sl_l, List.map_cons, List.map_nil, List.length_cons, List.length_nil, List.replicate, List.cons_append, List.nil_append, List.getElem?_cons_zero, List.getElem?_cons_succ, List.set_cons_zero, List.set_cons_succ, Option.bind_some, Option.map_some, Option.bind_none, Option.map_none, Nat.reduceAdd, Nat.reduceSub, Nat.reduceLT, Nat.reduceLeDiff, ↓reduceIte, reduceCtorEq, Bool.false_eq_true, Bool.true_and, Bool.and_true, Bool.false_and, Bool.and_false, Bool.not_true, Bool.not_false, if_true, if_false, e, e2, zeroD, ptrD, out_ret, trimM, Bool.false_or])
end
end K00


set_option Elab.async false
set_option linter.all false
set_option maxRecDepth 100000
set_option maxHeartbeats 4000000
set_option pp.maxSteps 400
namespace K00
open PySem Ev Ul
def nzD : D → Bool
  | .int i => !decide (i = 0)
  | _ => false
def tupT : List D → Bool
  | [a, b] => numD a && nzD b
  | _ => false
def ntermD : D → Bool
  | .int _ => true
  | .str x => numD (.str x)
  | .tup l => tupT l
  | .tpx l => tupT l
  | _ => false
theorem num_eq (d : D) : numD d = (nameD d && !ptrD d) := by
  cases d <;> first | rfl | skip
  rename_i x
  show (isName x && !hd64 x) = (isName x && !(isName x && hd64 x))
  cases isName x <;> cases hd64 x <;> rfl
theorem ix2 {a b : D} {M : Mem} {d : D} (h : asT d = some [a, b]) : ixD (drD M d) (.int 0) = some a ∧ ixD (drD M d) (.int 1) = some b := by
  rw [at_dr h]
  exact ⟨a0, a1⟩
theorem l0 : decide (((0 : Nat) : Int) = 2) = false := by decide
theorem l1 : decide (((0 + 1 : Nat) : Int) = 2) = false := by decide
theorem l2 : decide (((0 + 1 + 1 : Nat) : Int) = 2) = true := by decide
theorem l3 {n : Nat} : decide (((n + 1 + 1 + 1 : Nat) : Int) = 2) = false := decide_eq_false (by omega)
/-- what stands in a tuple -/
def Vs (d : D) : Prop := ∀ l, asT d = some l → ∀ x ∈ l, Vd x
theorem str_ty {d : D} (h : Vd d) : isTy .str d = some (isStrD d) := by cases d <;> first | exact h.elim | rfl
theorem name_no {d : D} (h : isTy .str d = some false) : nameD d = false := by cases d <;> first | rfl | (cases h; done)
theorem num_no {d : D} (h : isTy .str d = some false) : numD d = false := by cases d <;> first | rfl | (cases h; done)
theorem nz_of {d : D} (h : isIntD d = false) : nzD d = false := by cases d <;> first | rfl | (cases h; done)
theorem nterm_two (n : Nat) (a b : D) (ha : Vd a) (hb : Vd b) (d : D) (hd : asT d = some [a, b]) (M : Mem) : calls fds dat (n + 5) 8 [d] M = .ok (.val (.bl (numD a && nzD b)), M) := by
  show Ul.R fds dat _ _ _ _ = _
  rw [r_step (f := 8) (ar := 1) (ns := 1) (b := b8) rfl rfl]
  have hv : Vd d := by cases d <;> first | (cases hd; done) | trivial
  have i0 : isIntD d = false := by cases d <;> first | (cases hd; done) | rfl
  have e0 := is_int (n + 3) d hv M
  rw [i0] at e0
  have t1 : isTy .str d = some false := at_st hd
  have t2 : isTy .tuple d = some true := at_tu hd
  have t3 : ∀ M, drD M d = .tup [a, b] := fun M => at_dr hd
  have ea := name_d (n + 2) a ha M
  have ep := ptr_d (n + 1) a ha M
  have eb := is_int (n + 3) b hb M
  have ne := num_eq a
  unfold b8
  cases hs : isStrD a with
  | false =>
    have ts : isTy .str a = some false := by rw [str_ty ha, hs]
    rw [num_no ts, Bool.false_and]
    simp only [rel_bl, rel_int, rel_str, rel_non, rel_tup, rel_tpx, rel_lst, rel_dic, rel_mls, evSs, evS, evE, evEs, evB, evI, asgT, asgTs, rdV_k, rd_val, rd_mls, b2_k, bd_k, op_k, op_n, fz_val, fz_mls, bl_k, dr_int, dr_bl, dr_non, dr_str, dr_tup, dr_lst, dr_dic, dr_tpx, tru_bl, tru_lst, tru_tup, cm_lt, cm_le, cm_gt, cm_ge, cm_eqi, cm_eqs, cm_nei, cm_nes, bn_add, bn_addt, bn_addl, bn_sub, bn_mulR, bn_mulL, bn_div, bn_mod, bi_lent, bi_lenl, bi_tupt, bi_tupl, bi_listt, bi_listl, bi_int, bi_sum, bi_all, ix_t, ix_l, ix_s, pt_no, pt_i, no_none, no_int, no_v, no_bin, no_neg, sl_t, sl_l, List.map_cons, List.map_nil, List.length_cons, List.length_nil, List.replicate, List.cons_append, List.nil_append, List.getElem?_cons_zero, List.getElem?_cons_succ, List.set_cons_zero, List.set_cons_succ, Option.bind_some, Option.map_some, Option.bind_none, Option.map_none, Nat.reduceAdd, Nat.reduceSub, Nat.reduceLT, Nat.reduceLeDiff, ↓reduceIte, reduceCtorEq, Bool.false_eq_true, Bool.true_and, Bool.and_true, Bool.false_and, Bool.and_false, Bool.not_true, Bool.not_false, if_true, if_false, e0, t1, t2, t3, l2, a0, ts, out_ret, trimM]
  | true =>
    have ts : isTy .str a = some true := by rw [str_ty ha, hs]
    cases hn : nameD a <;> rw [hn] at ea ne
    · rw [ne, Bool.false_and]
      simp only [rel_bl, rel_int, rel_str, rel_non, rel_tup, rel_tpx, rel_lst, rel_dic, rel_mls, evSs, evS, evE, evEs, evB, evI, asgT, asgTs, rdV_k, rd_val, rd_mls, b2_k, bd_k, op_k, op_n, fz_val, fz_mls, bl_k, dr_int, dr_bl, dr_non, dr_str, dr_tup, dr_lst, dr_dic, dr_tpx, tru_bl, tru_lst, tru_tup, cm_lt, cm_le, cm_gt, cm_ge, cm_eqi, cm_eqs, cm_nei, cm_nes, bn_add, bn_addt, bn_addl, bn_sub, bn_mulR, bn_mulL, bn_div, bn_mod, bi_lent, bi_lenl, bi_tupt, bi_tupl, bi_listt, bi_listl, bi_int, bi_sum, bi_all, ix_t, ix_l, ix_s, pt_no, pt_i, no_none, no_int, no_v, no_bin, no_neg, sl_t, sl_l, List.map_cons, List.map_nil, List.length_cons, List.length_nil, List.replicate, List.cons_append, List.nil_append, List.getElem?_cons_zero, List.getElem?_cons_succ, List.set_cons_zero, List.set_cons_succ, Option.bind_some, Option.map_some, Option.bind_none, Option.map_none, Nat.reduceAdd, Nat.reduceSub, Nat.reduceLT, Nat.reduceLeDiff, ↓reduceIte, reduceCtorEq, Bool.false_eq_true, Bool.true_and, Bool.and_true, Bool.false_and, Bool.and_false, Bool.not_true, Bool.not_false, if_true, if_false, e0, t1, t2, t3, l2, a0, ts, ea, out_ret, trimM, Bool.false_and]
    · cases hp : ptrD a <;> rw [hp] at ep ne
      · rw [ne]
        cases hi : isIntD b with
        | false =>
          rw [hi] at eb
          rw [nz_of hi]
          simp only [rel_bl, rel_int, rel_str, rel_non, rel_tup, rel_tpx, rel_lst, rel_dic, rel_mls, evSs, evS, evE, evEs, evB, evI, asgT, asgTs, rdV_k, rd_val, rd_mls, b2_k, bd_k, op_k, op_n, fz_val, fz_mls, bl_k, dr_int, dr_bl, dr_non, dr_str, dr_tup, dr_lst, dr_dic, dr_tpx, tru_bl, tru_lst, tru_tup, cm_lt, cm_le, cm_gt, cm_ge, cm_eqi, cm_eqs, cm_nei, cm_nes, bn_add, bn_addt, bn_addl, bn_sub, bn_mulR, bn_mulL, bn_div, bn_mod, bi_lent, bi_lenl, bi_tupt, bi_tupl, bi_listt, bi_listl, bi_int, bi_sum, bi_all, ix_t, ix_l, ix_s, pt_no, pt_i, no_none, no_int, no_v, no_bin, no_neg, sl_t, sl_l, List.map_cons, List.map_nil, List.length_cons, List.length_nil, List.replicate, List.cons_append, List.nil_append, List.getElem?_cons_zero, List.getElem?_cons_succ, List.set_cons_zero, List.set_cons_succ, Option.bind_some, Option.map_some, Option.bind_none, Option.map_none, Nat.reduceAdd, Nat.reduceSub, Nat.reduceLT, Nat.reduceLeDiff, ↓reduceIte, reduceCtorEq, Bool.false_eq_true, Bool.true_and, Bool.and_true, Bool.false_and, Bool.and_false, Bool.not_true, Bool.not_false, if_true, if_false, e0, t1, t2, t3, l2, a0, a1, ts, ea, ep, eb, out_ret, trimM]
        | true =>
          rw [hi] at eb
          cases b <;> first | (cases hi; done) | skip
          rename_i i
          simp only [rel_bl, rel_int, rel_str, rel_non, rel_tup, rel_tpx, rel_lst, rel_dic, rel_mls, evSs, evS, evE, evEs, evB, evI, asgT, asgTs, rdV_k, rd_val, rd_mls, b2_k, bd_k, op_k, op_n, fz_val, fz_mls, bl_k, dr_int, dr_bl, dr_non, dr_str, dr_tup, dr_lst, dr_dic, dr_tpx, tru_bl, tru_lst, tru_tup, cm_lt, cm_le, cm_gt, cm_ge, cm_eqi, cm_eqs, cm_nei, cm_nes, bn_add, bn_addt, bn_addl, bn_sub, bn_mulR, bn_mulL, bn_div, bn_mod, bi_lent, bi_lenl, bi_tupt, bi_tupl, bi_listt, bi_listl, bi_int, bi_sum, bi_all, ix_t, ix_l, ix_s, pt_no, pt_i, no_none, no_int, no_v, no_bin, no_neg, sl_t, sl_l, List.map_cons, List.map_nil, List.length_cons, List.length_nil, List.replicate, List.cons_append, List.nil_append, List.getElem?_cons_zero, List.getElem?_cons_succ, List.set_cons_zero, List.set_cons_succ, Option.bind_some, Option.map_some, Option.bind_none, Option.map_none, Nat.reduceAdd, Nat.reduceSub, Nat.reduceLT, Nat.reduceLeDiff, ↓reduceIte, reduceCtorEq, Bool.false_eq_true, Bool.true_and, Bool.and_true, Bool.false_and, Bool.and_false, Bool.not_true, Bool.not_false, if_true, if_false, e0, t1, t2, t3, l2, a0, a1, ts, ea, ep, eb, nzD, out_ret, trimM]
      · rw [ne]
        simp only [rel_bl, rel_int, rel_str, rel_non, rel_tup, rel_tpx, rel_lst, rel_dic, rel_mls, evSs, evS, evE, evEs, evB, evI, asgT, asgTs, rdV_k, rd_val, rd_mls, b2_k, bd_k, op_k, op_n, fz_val, fz_mls, bl_k, dr_int, dr_bl, dr_non, dr_str, dr_tup, dr_lst, dr_dic, dr_tpx, tru_bl, tru_lst, tru_tup, cm_lt, cm_le, cm_gt, cm_ge, cm_eqi, cm_eqs, cm_nei, cm_nes, bn_add, bn_addt, bn_addl, bn_sub, bn_mulR, bn_mulL, bn_div, bn_mod, bi_lent, bi_lenl, bi_tupt, bi_tupl, bi_listt, bi_listl, bi_int, bi_sum, bi_all, ix_t, ix_l, ix_s, pt_no, pt_i, no_none, no_int, no_v, no_bin, no_neg, sl_t, sl_l, List.map_cons, List.map_nil, List.length_cons, List.length_nil, List.replicate, List.cons_append, List.nil_append, List.getElem?_cons_zero, List.getElem?_cons_succ, List.set_cons_zero, List.set_cons_succ, Option.bind_some, Option.map_some, Option.bind_none, Option.map_none, Nat.reduceAdd, Nat.reduceSub, Nat.reduceLT, Nat.reduceLeDiff, ↓reduceIte, reduceCtorEq, Bool.false_eq_true, Bool.true_and, Bool.and_true, Bool.false_and, Bool.and_false, Bool.not_true, Bool.not_false, if_true, if_false, e0, t1, t2, t3, l2, a0, a1, ts, ea, ep, out_ret, trimM]
theorem nterm_d (n : Nat) (d : D) (h : Vd d) (hs : Vs d) (M : Mem) : calls fds dat (n + 5) 8 [d] M = .ok (.val (.bl (ntermD d)), M) := by
  have tup : ∀ l, asT d = some l → calls fds dat (n + 5) 8 [d] M = .ok (.val (.bl (tupT l)), M) := by
    intro l hl
    have go : ((l.length : Int) = 2 → False) → tupT l = false → calls fds dat (n + 5) 8 [d] M = .ok (.val (.bl (tupT l)), M) := by
      intro h2 hf
      show Ul.R fds dat _ _ _ _ = _
      rw [r_step (f := 8) (ar := 1) (ns := 1) (b := b8) rfl rfl]
      have i0 : isIntD d = false := by cases d <;> first | (cases hl; done) | rfl
      have e0 := is_int (n + 3) d h M
      rw [i0] at e0
      have t1 : isTy .str d = some false := at_st hl
      have t2 : isTy .tuple d = some true := at_tu hl
      have t3 : ∀ M, drD M d = .tup l := fun M => at_dr hl
      have z : decide ((l.length : Int) = 2) = false := decide_eq_false h2
      unfold b8
      rw [hf]
      simp only [rel_bl, rel_int, rel_str, rel_non, rel_tup, rel_tpx, rel_lst, rel_dic, rel_mls, evSs, evS, evE, evEs, evB, evI, asgT, asgTs, rdV_k, rd_val, rd_mls, b2_k, bd_k, op_k, op_n, fz_val, fz_mls, bl_k, dr_int, dr_bl, dr_non, dr_str, dr_tup, dr_lst, dr_dic, dr_tpx, tru_bl, tru_lst, tru_tup, cm_lt, cm_le, cm_gt, cm_ge, cm_eqi, cm_eqs, cm_nei, cm_nes, bn_add, bn_addt, bn_addl, bn_sub, bn_mulR, bn_mulL, bn_div, bn_mod, bi_lent, bi_lenl, bi_tupt, bi_tupl, bi_listt, bi_listl, bi_int, bi_sum, bi_all, ix_t, ix_l, ix_s, pt_no, pt_i, no_none, no_int, no_v, no_bin, no_neg, sl_t, sl_l, List.map_cons, List.map_nil, List.length_cons, List.length_nil, List.replicate, List.cons_append, List.nil_append, List.getElem?_cons_zero, List.getElem?_cons_succ, List.set_cons_zero, List.set_cons_succ, Option.bind_some, Option.map_some, Option.bind_none, Option.map_none, Nat.reduceAdd, Nat.reduceSub, Nat.reduceLT, Nat.reduceLeDiff, ↓reduceIte, reduceCtorEq, Bool.false_eq_true, Bool.true_and, Bool.and_true, Bool.false_and, Bool.and_false, Bool.not_true, Bool.not_false, if_true, if_false, e0, t1, t2, t3, z, out_ret, trimM]
    cases l with
    | nil => exact go (by simp) rfl
    | cons a l =>
      cases l with
      | nil => exact go (by simp) rfl
      | cons b l =>
        cases l with
        | nil =>
          have hx := hs _ hl
          exact nterm_two n a b (hx a (by simp)) (hx b (by simp)) d hl M
        | cons c l => exact go (by simp only [List.length_cons]; omega) rfl
  cases d with
  | tup l => exact tup l rfl
  | tpx l => exact tup l rfl
  | str x =>
    show Ul.R fds dat _ _ _ _ = _
    rw [r_step (f := 8) (ar := 1) (ns := 1) (b := b8) rfl rfl]
    have e0 := is_int (n + 3) _ h M
    have ea := name_d (n + 2) _ h M
    have ep := ptr_d (n + 1) _ h M
    have ne := num_eq (.str x)
    simp only [isIntD] at e0
    unfold b8
    rw [show ntermD (.str x) = numD (.str x) from rfl, ne]
    cases hn : nameD (.str x) <;> rw [hn] at ea
    · simp only [rel_bl, rel_int, rel_str, rel_non, rel_tup, rel_tpx, rel_lst, rel_dic, rel_mls, evSs, evS, evE, evEs, evB, evI, asgT, asgTs, rdV_k, rd_val, rd_mls, b2_k, bd_k, op_k, op_n, fz_val, fz_mls, bl_k, dr_int, dr_bl, dr_non, dr_str, dr_tup, dr_lst, dr_dic, dr_tpx, tru_bl, tru_lst, tru_tup, cm_lt, cm_le, cm_gt, cm_ge, cm_eqi, cm_eqs, cm_nei, cm_nes, bn_add, bn_addt, bn_addl, bn_sub, bn_mulR, bn_mulL, bn_div, bn_mod, bi_lent, bi_lenl, bi_tupt, bi_tupl, bi_listt, bi_listl, bi_int, bi_sum, bi_all, ix_t, ix_l, ix_s, pt_no, pt_i, no_none, no_int, no_v, no_bin, no_neg, sl_t, sl_l, List.map_cons, List.map_nil, List.length_cons, List.length_nil, List.replicate, List.cons_append, List.nil_append, List.getElem?_cons_zero, List.getElem?_cons_succ, List.set_cons_zero, List.set_cons_succ, Option.bind_some, Option.map_some, Option.bind_none, Option.map_none, Nat.reduceAdd, Nat.reduceSub, Nat.reduceLT, Nat.reduceLeDiff, ↓reduceIte, reduceCtorEq, Bool.false_eq_true, Bool.true_and, Bool.and_true, Bool.false_and, Bool.and_false, Bool.not_true, Bool.not_false, if_true, if_false, e0, isS_s, ea, out_ret, trimM]
    · cases hp : ptrD (.str x) <;> rw [hp] at ep <;> simp only [rel_bl, rel_int, rel_str, rel_non, rel_tup, rel_tpx, rel_lst, rel_dic, rel_mls, evSs, evS, evE, evEs, evB, evI, asgT, asgTs, rdV_k, rd_val, rd_mls, b2_k, bd_k, op_k, op_n, fz_val, fz_mls, bl_k, dr_int, dr_bl, dr_non, dr_str, dr_tup, dr_lst, dr_dic, dr_tpx, tru_bl, tru_lst, tru_tup, cm_lt, cm_le, cm_gt, cm_ge, cm_eqi, cm_eqs, cm_nei, cm_nes, bn_add, bn_addt, bn_addl, bn_sub, bn_mulR, bn_mulL, bn_div, bn_mod, bi_lent, bi_lenl, bi_tupt, bi_tupl, bi_listt, bi_listl, bi_int, bi_sum, bi_all, ix_t, ix_l, ix_s, pt_no, pt_i, no_none, no_int, no_v, no_bin, no_neg, sl_t, sl_l, List.map_cons, List.map_nil, List.length_cons, List.length_nil, List.replicate, List.cons_append, List.nil_append, List.getElem?_cons_zero, List.getElem?_cons_succ, List.set_cons_zero, List.set_cons_succ, Option.bind_some, Option.map_some, Option.bind_none, Option.map_none, Nat.reduceAdd, Nat.reduceSub, Nat.reduceLT, Nat.reduceLeDiff, ↓reduceIte, reduceCtorEq, Bool.false_eq_true, Bool.true_and, Bool.and_true, Bool.false_and, Bool.and_false, Bool.not_true, Bool.not_false, if_true, if_false, e0, isS_s, ea, ep, out_ret, trimM]
  | int i =>
    show Ul.R fds dat _ _ _ _ = _
    rw [r_step (f := 8) (ar := 1) (ns := 1) (b := b8) rfl rfl]
    have e0 := is_int (n + 3) _ h M
    simp only [isIntD] at e0
    unfold b8
    simp only [rel_bl, rel_int, rel_str, rel_non, rel_tup, rel_tpx, rel_lst, rel_dic, rel_mls, evSs, evS, evE, evEs, evB, evI, asgT, asgTs, rdV_k, rd_val, rd_mls, b2_k, bd_k, op_k, op_n, fz_val, fz_mls, bl_k, dr_int, dr_bl, dr_non, dr_str, dr_tup, dr_lst, dr_dic, dr_tpx, tru_bl, tru_lst, tru_tup, cm_lt, cm_le, cm_gt, cm_ge, cm_eqi, cm_eqs, cm_nei, cm_nes, bn_add, bn_addt, bn_addl, bn_sub, bn_mulR, bn_mulL, bn_div, bn_mod, bi_lent, bi_lenl, bi_tupt, bi_tupl, bi_listt, bi_listl, bi_int, bi_sum, bi_all, ix_t, ix_l, ix_s, pt_no, pt_i, no_none, no_int, no_v, no_bin, no_neg, sl_t, sl_l, List.map_cons, List.map_nil, List.length_cons, List.length_nil, List.replicate, List.cons_append, List.nil_append, List.getElem?_cons_zero, List.getElem?_cons_succ, List.set_cons_zero, List.set_cons_succ, Option.bind_some, Option.map_some, Option.bind_none, Option.map_none, Nat.reduceAdd, Nat.reduceSub, Nat.reduceLT, Nat.reduceLeDiff, ↓reduceIte, reduceCtorEq, Bool.false_eq_true, Bool.true_and, Bool.and_true, Bool.false_and, Bool.and_false, Bool.not_true, Bool.not_false, if_true, if_false, e0, ntermD, out_ret, trimM]
  | bl i =>
    show Ul.R fds dat _ _ _ _ = _
    rw [r_step (f := 8) (ar := 1) (ns := 1) (b := b8) rfl rfl]
    have e0 := is_int (n + 3) _ h M
    simp only [isIntD] at e0
    unfold b8
    simp only [rel_bl, rel_int, rel_str, rel_non, rel_tup, rel_tpx, rel_lst, rel_dic, rel_mls, evSs, evS, evE, evEs, evB, evI, asgT, asgTs, rdV_k, rd_val, rd_mls, b2_k, bd_k, op_k, op_n, fz_val, fz_mls, bl_k, dr_int, dr_bl, dr_non, dr_str, dr_tup, dr_lst, dr_dic, dr_tpx, tru_bl, tru_lst, tru_tup, cm_lt, cm_le, cm_gt, cm_ge, cm_eqi, cm_eqs, cm_nei, cm_nes, bn_add, bn_addt, bn_addl, bn_sub, bn_mulR, bn_mulL, bn_div, bn_mod, bi_lent, bi_lenl, bi_tupt, bi_tupl, bi_listt, bi_listl, bi_int, bi_sum, bi_all, ix_t, ix_l, ix_s, pt_no, pt_i, no_none, no_int, no_v, no_bin, no_neg, sl_t, sl_l, List.map_cons, List.map_nil, List.length_cons, List.length_nil, List.replicate, List.cons_append, List.nil_append, List.getElem?_cons_zero, List.getElem?_cons_succ, List.set_cons_zero, List.set_cons_succ, Option.bind_some, Option.map_some, Option.bind_none, Option.map_none, Nat.reduceAdd, Nat.reduceSub, Nat.reduceLT, Nat.reduceLeDiff, ↓reduceIte, reduceCtorEq, Bool.false_eq_true, Bool.true_and, Bool.and_true, Bool.false_and, Bool.and_false, Bool.not_true, Bool.not_false, if_true, if_false, e0, isTy, ntermD, out_ret, trimM]
  | non =>
    show Ul.R fds dat _ _ _ _ = _
    rw [r_step (f := 8) (ar := 1) (ns := 1) (b := b8) rfl rfl]
    have e0 := is_int (n + 3) _ h M
    simp only [isIntD] at e0
    unfold b8
    simp only [rel_bl, rel_int, rel_str, rel_non, rel_tup, rel_tpx, rel_lst, rel_dic, rel_mls, evSs, evS, evE, evEs, evB, evI, asgT, asgTs, rdV_k, rd_val, rd_mls, b2_k, bd_k, op_k, op_n, fz_val, fz_mls, bl_k, dr_int, dr_bl, dr_non, dr_str, dr_tup, dr_lst, dr_dic, dr_tpx, tru_bl, tru_lst, tru_tup, cm_lt, cm_le, cm_gt, cm_ge, cm_eqi, cm_eqs, cm_nei, cm_nes, bn_add, bn_addt, bn_addl, bn_sub, bn_mulR, bn_mulL, bn_div, bn_mod, bi_lent, bi_lenl, bi_tupt, bi_tupl, bi_listt, bi_listl, bi_int, bi_sum, bi_all, ix_t, ix_l, ix_s, pt_no, pt_i, no_none, no_int, no_v, no_bin, no_neg, sl_t, sl_l, List.map_cons, List.map_nil, List.length_cons, List.length_nil, List.replicate, List.cons_append, List.nil_append, List.getElem?_cons_zero, List.getElem?_cons_succ, List.set_cons_zero, List.set_cons_succ, Option.bind_some, Option.map_some, Option.bind_none, Option.map_none, Nat.reduceAdd, Nat.reduceSub, Nat.reduceLT, Nat.reduceLeDiff, ↓reduceIte, reduceCtorEq, Bool.false_eq_true, Bool.true_and, Bool.and_true, Bool.false_and, Bool.and_false, Bool.not_true, Bool.not_false, if_true, if_false, e0, isTy, ntermD, out_ret, trimM]
  | lst _ => exact h.elim
  | dic _ _ => exact h.elim
  | ref _ => exact h.elim
theorem lnterm_two (n : Nat) (a b : D) (ha : Vd a) (hb : Vd b) (d : D) (hd : asT d = some [a, b]) (M : Mem) : calls fds dat (n + 5) 25 [d] M = .ok (.val (.bl (numD a && nzD b)), M) := by
  show Ul.R fds dat _ _ _ _ = _
  rw [r_step (f := 25) (ar := 1) (ns := 1) (b := b25) rfl rfl]
  have hv : Vd d := by cases d <;> first | (cases hd; done) | trivial
  have i0 : isIntD d = false := by cases d <;> first | (cases hd; done) | rfl
  have e0 := law_int (n + 3) d hv M
  rw [i0] at e0
  have t2 : isTy .tuple d = some true := at_tu hd
  have t3 : ∀ M, drD M d = .tup [a, b] := fun M => at_dr hd
  have ea := lname_d (n + 2) a ha M
  have eb := law_int (n + 3) b hb M
  unfold b25
  cases a
  case str x =>
    cases hn : isName x with
    | false =>
      rw [show nameD (.str x) = false from hn] at ea
      rw [show numD (.str x) = false by show (isName x && !hd64 x) = false; rw [hn]; rfl, Bool.false_and]
      simp only [rel_bl, rel_int, rel_str, rel_non, rel_tup, rel_tpx, rel_lst, rel_dic, rel_mls, evSs, evS, evE, evEs, evB, evI, asgT, asgTs, rdV_k, rd_val, rd_mls, b2_k, bd_k, op_k, op_n, fz_val, fz_mls, bl_k, dr_int, dr_bl, dr_non, dr_str, dr_tup, dr_lst, dr_dic, dr_tpx, tru_bl, tru_lst, tru_tup, cm_lt, cm_le, cm_gt, cm_ge, cm_eqi, cm_eqs, cm_nei, cm_nes, bn_add, bn_addt, bn_addl, bn_sub, bn_mulR, bn_mulL, bn_div, bn_mod, bi_lent, bi_lenl, bi_tupt, bi_tupl, bi_listt, bi_listl, bi_int, bi_sum, bi_all, ix_t, ix_l, ix_s, pt_no, pt_i, no_none, no_int, no_v, no_bin, no_neg, sl_t, sl_l, List.map_cons, List.map_nil, List.length_cons, List.length_nil, List.replicate, List.cons_append, List.nil_append, List.getElem?_cons_zero, List.getElem?_cons_succ, List.set_cons_zero, List.set_cons_succ, Option.bind_some, Option.map_some, Option.bind_none, Option.map_none, Nat.reduceAdd, Nat.reduceSub, Nat.reduceLT, Nat.reduceLeDiff, ↓reduceIte, reduceCtorEq, Bool.false_eq_true, Bool.true_and, Bool.and_true, Bool.false_and, Bool.and_false, Bool.not_true, Bool.not_false, if_true, if_false, e0, t2, t3, l2, a0, ea, out_ret, trimM]
    | true =>
      obtain ⟨c, a1', a2'⟩ := at_first ha hn
      rw [show nameD (.str x) = true from hn] at ea
      rw [show numD (.str x) = !hd64 x by show (isName x && !hd64 x) = _; rw [hn]; rfl]
      cases h64 : hd64 x <;> rw [h64] at a2'
      · cases hi : isIntD b with
        | false =>
          rw [hi] at eb
          rw [nz_of hi]
          simp only [rel_bl, rel_int, rel_str, rel_non, rel_tup, rel_tpx, rel_lst, rel_dic, rel_mls, evSs, evS, evE, evEs, evB, evI, asgT, asgTs, rdV_k, rd_val, rd_mls, b2_k, bd_k, op_k, op_n, fz_val, fz_mls, bl_k, dr_int, dr_bl, dr_non, dr_str, dr_tup, dr_lst, dr_dic, dr_tpx, tru_bl, tru_lst, tru_tup, cm_lt, cm_le, cm_gt, cm_ge, cm_eqi, cm_eqs, cm_nei, cm_nes, bn_add, bn_addt, bn_addl, bn_sub, bn_mulR, bn_mulL, bn_div, bn_mod, bi_lent, bi_lenl, bi_tupt, bi_tupl, bi_listt, bi_listl, bi_int, bi_sum, bi_all, ix_t, ix_l, ix_s, pt_no, pt_i, no_none, no_int, no_v, no_bin, no_neg, sl_t, sl_l, List.map_cons, List.map_nil, List.length_cons, List.length_nil, List.replicate, List.cons_append, List.nil_append, List.getElem?_cons_zero, List.getElem?_cons_succ, List.set_cons_zero, List.set_cons_succ, Option.bind_some, Option.map_some, Option.bind_none, Option.map_none, Nat.reduceAdd, Nat.reduceSub, Nat.reduceLT, Nat.reduceLeDiff, ↓reduceIte, reduceCtorEq, Bool.false_eq_true, Bool.true_and, Bool.and_true, Bool.false_and, Bool.and_false, Bool.not_true, Bool.not_false, if_true, if_false, e0, t2, t3, l2, a0, a1, a1', a2', ea, eb, out_ret, trimM]
        | true =>
          rw [hi] at eb
          cases b <;> first | (cases hi; done) | skip
          rename_i i
          simp only [rel_bl, rel_int, rel_str, rel_non, rel_tup, rel_tpx, rel_lst, rel_dic, rel_mls, evSs, evS, evE, evEs, evB, evI, asgT, asgTs, rdV_k, rd_val, rd_mls, b2_k, bd_k, op_k, op_n, fz_val, fz_mls, bl_k, dr_int, dr_bl, dr_non, dr_str, dr_tup, dr_lst, dr_dic, dr_tpx, tru_bl, tru_lst, tru_tup, cm_lt, cm_le, cm_gt, cm_ge, cm_eqi, cm_eqs, cm_nei, cm_nes, bn_add, bn_addt, bn_addl, bn_sub, bn_mulR, bn_mulL, bn_div, bn_mod, bi_lent, bi_lenl, bi_tupt, bi_tupl, bi_listt, bi_listl, bi_int, bi_sum, bi_all, ix_t, ix_l, ix_s, pt_no, pt_i, no_none, no_int, no_v, no_bin, no_neg, sl_t, sl_l, List.map_cons, List.map_nil, List.length_cons, List.length_nil, List.replicate, List.cons_append, List.nil_append, List.getElem?_cons_zero, List.getElem?_cons_succ, List.set_cons_zero, List.set_cons_succ, Option.bind_some, Option.map_some, Option.bind_none, Option.map_none, Nat.reduceAdd, Nat.reduceSub, Nat.reduceLT, Nat.reduceLeDiff, ↓reduceIte, reduceCtorEq, Bool.false_eq_true, Bool.true_and, Bool.and_true, Bool.false_and, Bool.and_false, Bool.not_true, Bool.not_false, if_true, if_false, e0, t2, t3, l2, a0, a1, a1', a2', ea, eb, nzD, out_ret, trimM]
      · simp only [rel_bl, rel_int, rel_str, rel_non, rel_tup, rel_tpx, rel_lst, rel_dic, rel_mls, evSs, evS, evE, evEs, evB, evI, asgT, asgTs, rdV_k, rd_val, rd_mls, b2_k, bd_k, op_k, op_n, fz_val, fz_mls, bl_k, dr_int, dr_bl, dr_non, dr_str, dr_tup, dr_lst, dr_dic, dr_tpx, tru_bl, tru_lst, tru_tup, cm_lt, cm_le, cm_gt, cm_ge, cm_eqi, cm_eqs, cm_nei, cm_nes, bn_add, bn_addt, bn_addl, bn_sub, bn_mulR, bn_mulL, bn_div, bn_mod, bi_lent, bi_lenl, bi_tupt, bi_tupl, bi_listt, bi_listl, bi_int, bi_sum, bi_all, ix_t, ix_l, ix_s, pt_no, pt_i, no_none, no_int, no_v, no_bin, no_neg, sl_t, sl_l, List.map_cons, List.map_nil, List.length_cons, List.length_nil, List.replicate, List.cons_append, List.nil_append, List.getElem?_cons_zero, List.getElem?_cons_succ, List.set_cons_zero, List.set_cons_succ, Option.bind_some, Option.map_some, Option.bind_none, Option.map_none, Nat.reduceAdd, Nat.reduceSub, Nat.reduceLT, Nat.reduceLeDiff, ↓reduceIte, reduceCtorEq, Bool.false_eq_true, Bool.true_and, Bool.and_true, Bool.false_and, Bool.and_false, Bool.not_true, Bool.not_false, if_true, if_false, e0, t2, t3, l2, a0, a1', a2', ea, out_ret, trimM]
  all_goals first | exact ha.elim | (simp only [nameD] at ea; simp only [rel_bl, rel_int, rel_str, rel_non, rel_tup, rel_tpx, rel_lst, rel_dic, rel_mls, evSs, evS, evE, evEs, evB, evI, asgT, asgTs, rdV_k, rd_val, rd_mls, b2_k, bd_k, op_k, op_n, fz_val, fz_mls, bl_k, dr_int, dr_bl, dr_non, dr_str, dr_tup, dr_lst, dr_dic, dr_tpx, tru_bl, tru_lst, tru_tup, cm_lt, cm_le, cm_gt, cm_ge, cm_eqi, cm_eqs, cm_nei, cm_nes, bn_add, bn_addt, bn_addl, bn_sub, bn_mulR, bn_mulL, bn_div, bn_mod, bi_lent, bi_lenl, bi_tupt, bi_tupl, bi_listt, bi_listl, bi_int, bi_sum, bi_all, ix_t, ix_l, ix_s, pt_no, pt_i, no_none, no_int, no_v, no_bin, no_neg, sl_t, sl_l, List.map_cons, List.map_nil, List.length_cons, List.length_nil, List.replicate, List.cons_append, List.nil_append, List.getElem?_cons_zero, List.getElem?_cons_succ, List.set_cons_zero, List.set_cons_succ, Option.bind_some, Option.map_some, Option.bind_none, Option.map_none, Nat.reduceAdd, Nat.reduceSub, Nat.reduceLT, Nat.reduceLeDiff, ↓reduceIte, reduceCtorEq, Bool.false_eq_true, Bool.true_and, Bool.and_true, Bool.false_and, Bool.and_false, Bool.not_true, Bool.not_false, if_true, if_false, e0, t2, t3, l2, a0, ea, numD, out_ret, trimM])
theorem lnterm_d (n : Nat) (d : D) (h : Vd d) (hs : Vs d) (M : Mem) : calls fds dat (n + 5) 25 [d] M = .ok (.val (.bl (ntermD d)), M) := by
  have e0 := law_int (n + 3) _ h M
  have ea := lname_d (n + 2) _ h M
  have tup : ∀ l, asT d = some l → calls fds dat (n + 5) 25 [d] M = .ok (.val (.bl (tupT l)), M) := by
    intro l hl
    have go : ((l.length : Int) = 2 → False) → tupT l = false → calls fds dat (n + 5) 25 [d] M = .ok (.val (.bl (tupT l)), M) := by
      intro h2 hf
      show Ul.R fds dat _ _ _ _ = _
      rw [r_step (f := 25) (ar := 1) (ns := 1) (b := b25) rfl rfl]
      have i0 : isIntD d = false := by cases d <;> first | (cases hl; done) | rfl
      rw [i0] at e0
      have t2 : isTy .tuple d = some true := at_tu hl
      have t3 : ∀ M, drD M d = .tup l := fun M => at_dr hl
      have z : decide ((l.length : Int) = 2) = false := decide_eq_false h2
      unfold b25
      rw [hf]
      simp only [rel_bl, rel_int, rel_str, rel_non, rel_tup, rel_tpx, rel_lst, rel_dic, rel_mls, evSs, evS, evE, evEs, evB, evI, asgT, asgTs, rdV_k, rd_val, rd_mls, b2_k, bd_k, op_k, op_n, fz_val, fz_mls, bl_k, dr_int, dr_bl, dr_non, dr_str, dr_tup, dr_lst, dr_dic, dr_tpx, tru_bl, tru_lst, tru_tup, cm_lt, cm_le, cm_gt, cm_ge, cm_eqi, cm_eqs, cm_nei, cm_nes, bn_add, bn_addt, bn_addl, bn_sub, bn_mulR, bn_mulL, bn_div, bn_mod, bi_lent, bi_lenl, bi_tupt, bi_tupl, bi_listt, bi_listl, bi_int, bi_sum, bi_all, ix_t, ix_l, ix_s, pt_no, pt_i, no_none, no_int, no_v, no_bin, no_neg, sl_t, sl_l, List.map_cons, List.map_nil, List.length_cons, List.length_nil, List.replicate, List.cons_append, List.nil_append, List.getElem?_cons_zero, List.getElem?_cons_succ, List.set_cons_zero, List.set_cons_succ, Option.bind_some, Option.map_some, Option.bind_none, Option.map_none, Nat.reduceAdd, Nat.reduceSub, Nat.reduceLT, Nat.reduceLeDiff, ↓reduceIte, reduceCtorEq, Bool.false_eq_true, Bool.true_and, Bool.and_true, Bool.false_and, Bool.and_false, Bool.not_true, Bool.not_false, if_true, if_false, e0, t2, t3, z, out_ret, trimM]
    cases l with
    | nil => exact go (by simp) rfl
    | cons a l =>
      cases l with
      | nil => exact go (by simp) rfl
      | cons b l =>
        cases l with
        | nil =>
          have hx := hs _ hl
          exact lnterm_two n a b (hx a (by simp)) (hx b (by simp)) d hl M
        | cons c l => exact go (by simp only [List.length_cons]; omega) rfl
  cases d with
  | tup l => exact tup l rfl
  | tpx l => exact tup l rfl
  | str x =>
    show Ul.R fds dat _ _ _ _ = _
    rw [r_step (f := 25) (ar := 1) (ns := 1) (b := b25) rfl rfl]
    simp only [isIntD] at e0
    unfold b25
    cases hn : isName x with
    | false =>
      rw [show nameD (.str x) = false from hn] at ea
      rw [show ntermD (.str x) = false by show (isName x && !hd64 x) = false; rw [hn]; rfl]
      simp only [rel_bl, rel_int, rel_str, rel_non, rel_tup, rel_tpx, rel_lst, rel_dic, rel_mls, evSs, evS, evE, evEs, evB, evI, asgT, asgTs, rdV_k, rd_val, rd_mls, b2_k, bd_k, op_k, op_n, fz_val, fz_mls, bl_k, dr_int, dr_bl, dr_non, dr_str, dr_tup, dr_lst, dr_dic, dr_tpx, tru_bl, tru_lst, tru_tup, cm_lt, cm_le, cm_gt, cm_ge, cm_eqi, cm_eqs, cm_nei, cm_nes, bn_add, bn_addt, bn_addl, bn_sub, bn_mulR, bn_mulL, bn_div, bn_mod, bi_lent, bi_lenl, bi_tupt, bi_tupl, bi_listt, bi_listl, bi_int, bi_sum, bi_all, ix_t, ix_l, ix_s, pt_no, pt_i, no_none, no_int, no_v, no_bin, no_neg, sl_t, sl_l, List.map_cons, List.map_nil, List.length_cons, List.length_nil, List.replicate, List.cons_append, List.nil_append, List.getElem?_cons_zero, List.getElem?_cons_succ, List.set_cons_zero, List.set_cons_succ, Option.bind_some, Option.map_some, Option.bind_none, Option.map_none, Nat.reduceAdd, Nat.reduceSub, Nat.reduceLT, Nat.reduceLeDiff, ↓reduceIte, reduceCtorEq, Bool.false_eq_true, Bool.true_and, Bool.and_true, Bool.false_and, Bool.and_false, Bool.not_true, Bool.not_false, if_true, if_false, e0, isTy, ea, out_ret, trimM]
    | true =>
      obtain ⟨c, a1', a2'⟩ := at_first h hn
      rw [show nameD (.str x) = true from hn] at ea
      rw [show ntermD (.str x) = !hd64 x by show (isName x && !hd64 x) = _; rw [hn]; rfl]
      simp only [rel_bl, rel_int, rel_str, rel_non, rel_tup, rel_tpx, rel_lst, rel_dic, rel_mls, evSs, evS, evE, evEs, evB, evI, asgT, asgTs, rdV_k, rd_val, rd_mls, b2_k, bd_k, op_k, op_n, fz_val, fz_mls, bl_k, dr_int, dr_bl, dr_non, dr_str, dr_tup, dr_lst, dr_dic, dr_tpx, tru_bl, tru_lst, tru_tup, cm_lt, cm_le, cm_gt, cm_ge, cm_eqi, cm_eqs, cm_nei, cm_nes, bn_add, bn_addt, bn_addl, bn_sub, bn_mulR, bn_mulL, bn_div, bn_mod, bi_lent, bi_lenl, bi_tupt, bi_tupl, bi_listt, bi_listl, bi_int, bi_sum, bi_all, ix_t, ix_l, ix_s, pt_no, pt_i, no_none, no_int, no_v, no_bin, no_neg, sl_t, sl_l, List.map_cons, List.map_nil, List.length_cons, List.length_nil, List.replicate, List.cons_append, List.nil_append, List.getElem?_cons_zero, List.getElem?_cons_succ, List.set_cons_zero, List.set_cons_succ, Option.bind_some, Option.map_some, Option.bind_none, Option.map_none, Nat.reduceAdd, Nat.reduceSub, Nat.reduceLT, Nat.reduceLeDiff, ↓reduceIte, reduceCtorEq, Bool.false_eq_true, Bool.true_and, Bool.and_true, Bool.false_and, Bool.and_false, Bool.not_true, Bool.not_false, if_true, if_false, e0, isTy, ea, a1', a2', out_ret, trimM]
  | lst _ => exact h.elim
  | dic _ _ => exact h.elim
  | ref _ => exact h.elim
  | int i =>
    show Ul.R fds dat _ _ _ _ = _
    rw [r_step (f := 25) (ar := 1) (ns := 1) (b := b25) rfl rfl]
    simp only [isIntD] at e0
    unfold b25
    simp only [rel_bl, rel_int, rel_str, rel_non, rel_tup, rel_tpx, rel_lst, rel_dic, rel_mls, evSs, evS, evE, evEs, evB, evI, asgT, asgTs, rdV_k, rd_val, rd_mls, b2_k, bd_k, op_k, op_n, fz_val, fz_mls, bl_k, dr_int, dr_bl, dr_non, dr_str, dr_tup, dr_lst, dr_dic, dr_tpx, tru_bl, tru_lst, tru_tup, cm_lt, cm_le, cm_gt, cm_ge, cm_eqi, cm_eqs, cm_nei, cm_nes, bn_add, bn_addt, bn_addl, bn_sub, bn_mulR, bn_mulL, bn_div, bn_mod, bi_lent, bi_lenl, bi_tupt, bi_tupl, bi_listt, bi_listl, bi_int, bi_sum, bi_all, ix_t, ix_l, ix_s, pt_no, pt_i, no_none, no_int, no_v, no_bin, no_neg, sl_t, sl_l, List.map_cons, List.map_nil, List.length_cons, List.length_nil, List.replicate, List.cons_append, List.nil_append, List.getElem?_cons_zero, List.getElem?_cons_succ, List.set_cons_zero, List.set_cons_succ, Option.bind_some, Option.map_some, Option.bind_none, Option.map_none, Nat.reduceAdd, Nat.reduceSub, Nat.reduceLT, Nat.reduceLeDiff, ↓reduceIte, reduceCtorEq, Bool.false_eq_true, Bool.true_and, Bool.and_true, Bool.false_and, Bool.and_false, Bool.not_true, Bool.not_false, if_true, if_false, e0, ntermD, out_ret, trimM]
  | bl i =>
    show Ul.R fds dat _ _ _ _ = _
    rw [r_step (f := 25) (ar := 1) (ns := 1) (b := b25) rfl rfl]
    simp only [isIntD] at e0
    simp only [nameD] at ea
    unfold b25
    simp only [rel_bl, rel_int, rel_str, rel_non, rel_tup, rel_tpx, rel_lst, rel_dic, rel_mls, evSs, evS, evE, evEs, evB, evI, asgT, asgTs, rdV_k, rd_val, rd_mls, b2_k, bd_k, op_k, op_n, fz_val, fz_mls, bl_k, dr_int, dr_bl, dr_non, dr_str, dr_tup, dr_lst, dr_dic, dr_tpx, tru_bl, tru_lst, tru_tup, cm_lt, cm_le, cm_gt, cm_ge, cm_eqi, cm_eqs, cm_nei, cm_nes, bn_add, bn_addt, bn_addl, bn_sub, bn_mulR, bn_mulL, bn_div, bn_mod, bi_lent, bi_lenl, bi_tupt, bi_tupl, bi_listt, bi_listl, bi_int, bi_sum, bi_all, ix_t, ix_l, ix_s, pt_no, pt_i, no_none, no_int, no_v, no_bin, no_neg, sl_t, sl_l, List.map_cons, List.map_nil, List.length_cons, List.length_nil, List.replicate, List.cons_append, List.nil_append, List.getElem?_cons_zero, List.getElem?_cons_succ, List.set_cons_zero, List.set_cons_succ, Option.bind_some, Option.map_some, Option.bind_none, Option.map_none, Nat.reduceAdd, Nat.reduceSub, Nat.reduceLT, Nat.reduceLeDiff, ↓reduceIte, reduceCtorEq, Bool.false_eq_true, Bool.true_and, Bool.and_true, Bool.false_and, Bool.and_false, Bool.not_true, Bool.not_false, if_true, if_false, e0, ea, isTy, ntermD, out_ret, trimM]
  | non =>
    show Ul.R fds dat _ _ _ _ = _
    rw [r_step (f := 25) (ar := 1) (ns := 1) (b := b25) rfl rfl]
    simp only [isIntD] at e0
    simp only [nameD] at ea
    unfold b25
    simp only [rel_bl, rel_int, rel_str, rel_non, rel_tup, rel_tpx, rel_lst, rel_dic, rel_mls, evSs, evS, evE, evEs, evB, evI, asgT, asgTs, rdV_k, rd_val, rd_mls, b2_k, bd_k, op_k, op_n, fz_val, fz_mls, bl_k, dr_int, dr_bl, dr_non, dr_str, dr_tup, dr_lst, dr_dic, dr_tpx, tru_bl, tru_lst, tru_tup, cm_lt, cm_le, cm_gt, cm_ge, cm_eqi, cm_eqs, cm_nei, cm_nes, bn_add, bn_addt, bn_addl, bn_sub, bn_mulR, bn_mulL, bn_div, bn_mod, bi_lent, bi_lenl, bi_tupt, bi_tupl, bi_listt, bi_listl, bi_int, bi_sum, bi_all, ix_t, ix_l, ix_s, pt_no, pt_i, no_none, no_int, no_v, no_bin, no_neg, sl_t, sl_l, List.map_cons, List.map_nil, List.length_cons, List.length_nil, List.replicate, List.cons_append, List.nil_append, List.getElem?_cons_zero, List.getElem?_cons_succ, List.set_cons_zero, List.set_cons_succ, Option.bind_some, Option.map_some, Option.bind_none, Option.map_none, Nat.reduceAdd, Nat.reduceSub, Nat.reduceLT, Nat.reduceLeDiff, ↓reduceIte, reduceCtorEq, Bool.false_eq_true, Bool.true_and, Bool.and_true, Bool.false_and, Bool.and_false, Bool.not_true, Bool.not_false, if_true, if_false, e0, ea, isTy, ntermD, out_ret, trimM]
/-! ### judged -/
theorem bls_pl (l : List Bool) (h : l.length ≤ 900) : Pl 1 (.tup (l.map D.bl)) := ⟨by rw [List.length_map]; exact h, fun x hx => by
  obtain ⟨b, _, rfl⟩ := List.mem_map.mp hx
  trivial⟩
theorem judged (n : Nat) (d : D) (h : Vd d) (hs : Vs d) (M : Mem) : calls fds dat (n + 6) 28 [d] M = .ok (.val (.bl true), M) := by
  have q8 : (8 : Nat) ≤ seqLine := by decide
  have sm := same (D' := dat) (me := 18) (hm := rfl) (Ps := fds)
  have e0 := is_int (n + 4) d h M
  have f0 := law_int (n + 4) d h M
  have e1 := word_d (n + 4) d h M
  have f1 := lword_d (n + 4) d h M
  have e2 := name_d (n + 3) d h M
  have f2 := lname_d (n + 3) d h M
  have e3 := ptr_d (n + 2) d h M
  have e4 := num_d (n + 2) d h M
  have e5 := free_d (n + 2) d h M
  have e6 := pterm_d (n + 1) d h M
  have e7 := nterm_d n d h hs M
  have f7 := lnterm_d n d h hs M
  have S := sm 1 (n + 3) (.tup ([isIntD d, wordD d, nameD d, ptrD d, numD d, isFree d, ptrD d || zeroD d, ntermD d].map D.bl)) (bls_pl _ (by simp)) M
  simp only [List.map_cons, List.map_nil] at S
  show Ul.R fds dat _ _ _ _ = _
  rw [r_step (f := 28) (ar := 1) (ns := 6) (b := b28) rfl rfl]
  unfold b28
  have nostr : isStrD d = false → outT M.length (evSs (calls fds dat (n + 5)) dat b28 ⟨[d].map Rv.val ++ List.replicate (6 - [d].length) .un, M⟩) = .ok (.val (.bl true), M) := by
    intro hz
    unfold b28
    have k1 : wordD d = false := by cases d <;> first | rfl | (cases hz; done)
    have k2 : nameD d = false := by cases d <;> first | rfl | (cases hz; done)
    have k3 : ptrD d = false := by cases d <;> first | rfl | (cases hz; done)
    have k4 : numD d = false := by cases d <;> first | rfl | (cases hz; done)
    have k5 : isFree d = false := by cases d <;> first | rfl | (cases hz; done)
    rw [k1, k2, k3, k4, k5] at S
    rw [k2] at e2 f2
    rw [k1] at e1 f1
    rw [k3] at e3
    rw [k4] at e4
    rw [k5] at e5
    rw [k3] at e6
    cases hi : isIntD d with
    | false =>
      rw [hi] at e0 f0 S
      have k6 : zeroD d = false := by cases d <;> first | rfl | (cases hi; done)
      rw [k6] at e6 S
      simp only [Bool.or_false] at e6 S
      simp only [rel_bl, rel_int, rel_str, rel_non, rel_tup, rel_tpx, rel_lst, rel_dic, rel_mls, evSs, evS, evE, evEs, evB, evI, asgT, asgTs, rdV_k, rd_val, rd_mls, b2_k, bd_k, op_k, op_n, fz_val, fz_mls, bl_k, dr_int, dr_bl, dr_non, dr_str, dr_tup, dr_lst, dr_dic, dr_tpx, tru_bl, tru_lst, tru_tup, cm_lt, cm_le, cm_gt, cm_ge, cm_eqi, cm_eqs, cm_nei, cm_nes, bn_add, bn_addt, bn_addl, bn_sub, bn_mulR, bn_mulL, bn_div, bn_mod, bi_lent, bi_lenl, bi_tupt, bi_tupl, bi_listt, bi_listl, bi_int, bi_sum, bi_all, ix_t, ix_l, ix_s, pt_no, pt_i, no_none, no_int, no_v, no_bin, no_neg, sl_t, sl_l, List.map_cons, List.map_nil, List.length_cons, List.length_nil, List.replicate, List.cons_append, List.nil_append, List.getElem?_cons_zero, List.getElem?_cons_succ, List.set_cons_zero, List.set_cons_succ, Option.bind_some, Option.map_some, Option.bind_none, Option.map_none, Nat.reduceAdd, Nat.reduceSub, Nat.reduceLT, Nat.reduceLeDiff, ↓reduceIte, reduceCtorEq, Bool.false_eq_true, Bool.true_and, Bool.and_true, Bool.false_and, Bool.and_false, Bool.not_true, Bool.not_false, if_true, if_false, e0, f0, e1, f1, e2, f2, e3, e4, e5, e6, e7, f7, q8, and_self, S, out_ret, trimM]
    | true =>
      cases d <;> first | (cases hi; done) | skip
      rename_i i
      simp only [isIntD] at e0 f0 S
      simp only [zeroD, Bool.false_or] at e6 S
      simp only [rel_bl, rel_int, rel_str, rel_non, rel_tup, rel_tpx, rel_lst, rel_dic, rel_mls, evSs, evS, evE, evEs, evB, evI, asgT, asgTs, rdV_k, rd_val, rd_mls, b2_k, bd_k, op_k, op_n, fz_val, fz_mls, bl_k, dr_int, dr_bl, dr_non, dr_str, dr_tup, dr_lst, dr_dic, dr_tpx, tru_bl, tru_lst, tru_tup, cm_lt, cm_le, cm_gt, cm_ge, cm_eqi, cm_eqs, cm_nei, cm_nes, bn_add, bn_addt, bn_addl, bn_sub, bn_mulR, bn_mulL, bn_div, bn_mod, bi_lent, bi_lenl, bi_tupt, bi_tupl, bi_listt, bi_listl, bi_int, bi_sum, bi_all, ix_t, ix_l, ix_s, pt_no, pt_i, no_none, no_int, no_v, no_bin, no_neg, sl_t, sl_l, List.map_cons, List.map_nil, List.length_cons, List.length_nil, List.replicate, List.cons_append, List.nil_append, List.getElem?_cons_zero, List.getElem?_cons_succ, List.set_cons_zero, List.set_cons_succ, Option.bind_some, Option.map_some, Option.bind_none, Option.map_none, Nat.reduceAdd, Nat.reduceSub, Nat.reduceLT, Nat.reduceLeDiff, ↓reduceIte, reduceCtorEq, Bool.false_eq_true, Bool.true_and, Bool.and_true, Bool.false_and, Bool.and_false, Bool.not_true, Bool.not_false, if_true, if_false, e0, f0, e1, f1, e2, f2, e3, e4, e5, e6, e7, f7, q8, and_self, S, out_ret, trimM]
  cases d
  case str x =>
    have h5 := is_hidden (n + 4) x h M
    have hin : cmpD .isin (.str "_") (.str x) = some (occS ("_" : Str) x) := rfl
    have sb := fun b => sm 0 (n + 4) (.bl b) trivial M
    have hf := free_eq x
    have hu : isName x = true → isHid x = occS ("_" : Str) x := fun hn => by rw [us_occ, hid_in hn]
    rw [show ptrD (.str x) = (isName x && hd64 x) from rfl] at e3 e6 S
    rw [show numD (.str x) = (isName x && !hd64 x) from rfl] at e4 S
    rw [show nameD (.str x) = isName x from rfl] at e2 f2 S
    rw [hf] at e5 S
    simp only [isIntD] at e0 f0 S
    simp only [zeroD, Bool.or_false] at e6 S
    cases hn : isName x with
    | false =>
      rw [hn] at e2 f2 e3 e4 e5 e6 S
      simp only [Bool.false_and] at e3 e4 e5 e6 S
      simp only [rel_bl, rel_int, rel_str, rel_non, rel_tup, rel_tpx, rel_lst, rel_dic, rel_mls, evSs, evS, evE, evEs, evB, evI, asgT, asgTs, rdV_k, rd_val, rd_mls, b2_k, bd_k, op_k, op_n, fz_val, fz_mls, bl_k, dr_int, dr_bl, dr_non, dr_str, dr_tup, dr_lst, dr_dic, dr_tpx, tru_bl, tru_lst, tru_tup, cm_lt, cm_le, cm_gt, cm_ge, cm_eqi, cm_eqs, cm_nei, cm_nes, bn_add, bn_addt, bn_addl, bn_sub, bn_mulR, bn_mulL, bn_div, bn_mod, bi_lent, bi_lenl, bi_tupt, bi_tupl, bi_listt, bi_listl, bi_int, bi_sum, bi_all, ix_t, ix_l, ix_s, pt_no, pt_i, no_none, no_int, no_v, no_bin, no_neg, sl_t, sl_l, List.map_cons, List.map_nil, List.length_cons, List.length_nil, List.replicate, List.cons_append, List.nil_append, List.getElem?_cons_zero, List.getElem?_cons_succ, List.set_cons_zero, List.set_cons_succ, Option.bind_some, Option.map_some, Option.bind_none, Option.map_none, Nat.reduceAdd, Nat.reduceSub, Nat.reduceLT, Nat.reduceLeDiff, ↓reduceIte, reduceCtorEq, Bool.false_eq_true, Bool.true_and, Bool.and_true, Bool.false_and, Bool.and_false, Bool.not_true, Bool.not_false, if_true, if_false, e0, f0, e1, f1, e2, f2, e3, e4, e5, e6, e7, f7, q8, and_self, S, out_ret, trimM]
    | true =>
      obtain ⟨c, a1', a2'⟩ := at_first h hn
      rw [hn] at e2 f2 e3 e4 e5 e6 S
      rw [hu hn] at h5
      simp only [Bool.true_and] at e3 e4 e5 e6 S
      cases h64 : hd64 x <;> rw [h64] at e3 e4 e6 S a2' <;> cases ho : occS ("_" : Str) x <;> rw [ho] at e5 S h5 <;> simp only [Bool.not_true, Bool.not_false] at e4 e5 S <;>
        simp only [rel_bl, rel_int, rel_str, rel_non, rel_tup, rel_tpx, rel_lst, rel_dic, rel_mls, evSs, evS, evE, evEs, evB, evI, asgT, asgTs, rdV_k, rd_val, rd_mls, b2_k, bd_k, op_k, op_n, fz_val, fz_mls, bl_k, dr_int, dr_bl, dr_non, dr_str, dr_tup, dr_lst, dr_dic, dr_tpx, tru_bl, tru_lst, tru_tup, cm_lt, cm_le, cm_gt, cm_ge, cm_eqi, cm_eqs, cm_nei, cm_nes, bn_add, bn_addt, bn_addl, bn_sub, bn_mulR, bn_mulL, bn_div, bn_mod, bi_lent, bi_lenl, bi_tupt, bi_tupl, bi_listt, bi_listl, bi_int, bi_sum, bi_all, ix_t, ix_l, ix_s, pt_no, pt_i, no_none, no_int, no_v, no_bin, no_neg, sl_t, sl_l, List.map_cons, List.map_nil, List.length_cons, List.length_nil, List.replicate, List.cons_append, List.nil_append, List.getElem?_cons_zero, List.getElem?_cons_succ, List.set_cons_zero, List.set_cons_succ, Option.bind_some, Option.map_some, Option.bind_none, Option.map_none, Nat.reduceAdd, Nat.reduceSub, Nat.reduceLT, Nat.reduceLeDiff, ↓reduceIte, reduceCtorEq, Bool.false_eq_true, Bool.true_and, Bool.and_true, Bool.false_and, Bool.and_false, Bool.not_true, Bool.not_false, if_true, if_false, e0, f0, e1, f1, e2, f2, e3, e4, e5, e6, e7, f7, q8, and_self, S, h5, hin, ho, a1', a2', sb, out_ret, trimM]
  all_goals first | exact h.elim | exact nostr rfl
end K00


set_option Elab.async false
set_option linter.all false
set_option maxRecDepth 100000
set_option maxHeartbeats 4000000
set_option pp.maxSteps 400
namespace K00
open PySem Ev Ul
theorem bx_trim {r M M' : Mem} (h : Bx r M) (h' : Bx r M') {v : Rv} : Ev.trim M.length v M' = M' := trim_le (by rw [h.len, h'.len]; exact Nat.le_refl _)
theorem dr (n : Nat) (k : Int) (h0 : 0 < k) (h1 : k < 1073741824) {r M : Mem} (h : Bx r M) : ∃ (v : Int) (M' : Mem), 0 ≤ v ∧ v < k ∧ Bx r M' ∧ calls fds dat (n + 2) 17 [.ref 1, .int k] M = .ok (.val (.int v), M') := bx_draw (ld := 16) ⟨rfl, rfl⟩ n k h0 h1 h
theorem q7 : (7 : Nat) ≤ seqLine := by decide
theorem q5 : (5 : Nat) ≤ seqLine := by decide
theorem q3 : (3 : Nat) ≤ seqLine := by decide
theorem q2 : (2 : Nat) ≤ seqLine := by decide
/-- a short text, of signs that there are -/
def Sx (m : Nat) (x : Str) : Prop := x.length ≤ m ∧ PyData.strOk x = true
theorem strOk_app {a b : Str} (h : PyData.strOk a = true) (k : PyData.strOk b = true) : PyData.strOk (a ++ b) = true := by
  unfold PyData.strOk at *
  rw [PySem.Str.cps_append, Array.all_append, h, k]
  rfl
def words : List D := [.str "x", .str "y", .str "t", .str "ab1", .str "list", .str "z9", .str "abcdef"]
theorem words_ok : ∀ d ∈ words, ∃ x : Str, d = .str x ∧ Sx 6 x := by
  intro d hd
  unfold words at hd
  simp only [List.mem_cons, List.not_mem_nil, or_false] at hd
  rcases hd with rfl | rfl | rfl | rfl | rfl | rfl | rfl <;> exact ⟨_, rfl, by decide, by decide +kernel⟩
theorem word_dr (n : Nat) {r M : Mem} (h : Bx r M) : ∃ (x : Str) (M' : Mem), Sx 6 x ∧ Bx r M' ∧ calls fds dat (n + 3) 20 [.ref 1] M = .ok (.val (.str x), M') := by
  obtain ⟨v, M1, h0, h1, b1', e1⟩ := dr n 7 (by decide) (by decide) h
  obtain ⟨d, ea, hm⟩ := at_some (l := words) (v := v) h0 (by exact h1)
  obtain ⟨x, rfl, hx⟩ := words_ok d hm
  refine ⟨x, M1, hx, b1', ?_⟩
  show Ul.R fds dat _ _ _ _ = _
  rw [r_step (n := n + 2) (f := 20) (ar := 1) (ns := 1) (b := b20) rfl rfl]
  unfold words at ea
  unfold b20
  simp only [rel_bl, rel_int, rel_str, rel_non, rel_tup, rel_tpx, rel_lst, rel_dic, rel_mls, evSs, evS, evE, evEs, evB, evI, asgT, asgTs, rdV_k, rd_val, rd_mls, b2_k, bd_k, op_k, op_n, fz_val, fz_mls, bl_k, dr_int, dr_bl, dr_non, dr_str, dr_tup, dr_lst, dr_dic, dr_tpx, tru_bl, tru_lst, tru_tup, cm_lt, cm_le, cm_gt, cm_ge, cm_eqi, cm_eqs, cm_nei, cm_nes, bn_add, bn_addt, bn_addl, bn_sub, bn_mulR, bn_mulL, bn_div, bn_mod, bi_lent, bi_lenl, bi_tupt, bi_tupl, bi_listt, bi_listl, bi_int, bi_sum, bi_all, ix_t, ix_l, ix_s, pt_no, pt_i, no_none, no_int, no_v, no_bin, no_neg, sl_t, sl_l, List.map_cons, List.map_nil, List.length_cons, List.length_nil, List.replicate, List.cons_append, List.nil_append, List.getElem?_cons_zero, List.getElem?_cons_succ, List.set_cons_zero, List.set_cons_succ, Option.bind_some, Option.map_some, Option.bind_none, Option.map_none, Nat.reduceAdd, Nat.reduceSub, Nat.reduceLT, Nat.reduceLeDiff, ↓reduceIte, reduceCtorEq, Bool.false_eq_true, Bool.true_and, Bool.and_true, Bool.false_and, Bool.and_false, Bool.not_true, Bool.not_false, if_true, if_false, e1, ea, q7, out_ret, bx_trim h b1']
theorem app_len (a b : Str) : (a ++ b).length = a.length + b.length := by
  exact PySem.Str.length_append a b
theorem name_dr (n : Nat) (b : Bool) {r M : Mem} (h : Bx r M) : ∃ (x : Str) (M' : Mem), Sx 8 x ∧ Bx r M' ∧ calls fds dat (n + 4) 21 [.ref 1, .bl b] M = .ok (.val (.str x), M') := by
  obtain ⟨v, M1, h0, h1, k1, e1⟩ := dr (n + 1) 3 (by decide) (by decide) h
  obtain ⟨x, M2, hx, k2, e2⟩ := word_dr n k1
  have la : (if b = true then ("@" : Str) else "").length ≤ 1 := by cases b <;> decide
  have lu : (if decide (v = 0) = true then ("_" : Str) else "").length ≤ 1 := by split <;> decide
  have hx6 := hx.1
  have oa : PyData.strOk (if b = true then ("@" : Str) else "") = true := by cases b <;> decide +kernel
  have ou : PyData.strOk (if decide (v = 0) = true then ("_" : Str) else "") = true := by split <;> decide +kernel
  have z1 : (if b = true then ("@" : Str) else "").length + (if decide (v = 0) = true then ("_" : Str) else "").length ≤ seqLine := le_seq (by omega)
  have z2 : ((if b = true then ("@" : Str) else "") ++ (if decide (v = 0) = true then ("_" : Str) else "")).length + x.length ≤ seqLine := le_seq (by rw [app_len]; omega)
  refine ⟨(if b = true then ("@" : Str) else "") ++ (if decide (v = 0) = true then ("_" : Str) else "") ++ x, M2, ⟨by rw [app_len, app_len]; omega, strOk_app (strOk_app oa ou) hx.2⟩, k2, ?_⟩
  show Ul.R fds dat _ _ _ _ = _
  rw [r_step (n := n + 3) (f := 21) (ar := 2) (ns := 2) (b := b21) rfl rfl]
  unfold b21
  cases b <;> cases hv : decide (v = 0) <;> rw [hv] at z1 z2 <;> simp only [if_true, if_false, Bool.false_eq_true] at z1 z2 <;> simp only [rel_bl, rel_int, rel_str, rel_non, rel_tup, rel_tpx, rel_lst, rel_dic, rel_mls, evSs, evS, evE, evEs, evB, evI, asgT, asgTs, rdV_k, rd_val, rd_mls, b2_k, bd_k, op_k, op_n, fz_val, fz_mls, bl_k, dr_int, dr_bl, dr_non, dr_str, dr_tup, dr_lst, dr_dic, dr_tpx, tru_bl, tru_lst, tru_tup, cm_lt, cm_le, cm_gt, cm_ge, cm_eqi, cm_eqs, cm_nei, cm_nes, bn_add, bn_addt, bn_addl, bn_sub, bn_mulR, bn_mulL, bn_div, bn_mod, bi_lent, bi_lenl, bi_tupt, bi_tupl, bi_listt, bi_listl, bi_int, bi_sum, bi_all, ix_t, ix_l, ix_s, pt_no, pt_i, no_none, no_int, no_v, no_bin, no_neg, sl_t, sl_l, List.map_cons, List.map_nil, List.length_cons, List.length_nil, List.replicate, List.cons_append, List.nil_append, List.getElem?_cons_zero, List.getElem?_cons_succ, List.set_cons_zero, List.set_cons_succ, Option.bind_some, Option.map_some, Option.bind_none, Option.map_none, Nat.reduceAdd, Nat.reduceSub, Nat.reduceLT, Nat.reduceLeDiff, ↓reduceIte, reduceCtorEq, Bool.false_eq_true, Bool.true_and, Bool.and_true, Bool.false_and, Bool.and_false, Bool.not_true, Bool.not_false, if_true, if_false, e1, e2, hv, bn_adds z1, bn_adds z2, out_ret, bx_trim h k2]
/-- a term -/
def IsTerm (d : D) : Prop := (∃ i, d = .int i) ∨ (∃ x : Str, Sx 8 x ∧ d = .str x) ∨ (∃ (x : Str) (i : Int), (Sx 8 x ∧ i ≠ 0) ∧ d = .tup [.str x, .int i])
def nums5 : List D := [.int (-3), .int (-1), .int 1, .int 2, .int 7]
theorem nums5_ok : ∀ d ∈ nums5, ∃ i : Int, d = .int i ∧ i ≠ 0 := by
  intro d hd
  unfold nums5 at hd
  simp only [List.mem_cons, List.not_mem_nil, or_false] at hd
  rcases hd with rfl | rfl | rfl | rfl | rfl <;> exact ⟨_, rfl, by decide⟩
theorem term_dr (n : Nat) {r M : Mem} (h : Bx r M) : ∃ (d : D) (M' : Mem), IsTerm d ∧ Bx r M' ∧ calls fds dat (n + 5) 26 [.ref 1] M = .ok (.val d, M') := by
  obtain ⟨v1, M1, _, _, k1, e1⟩ := dr (n + 2) 9 (by decide) (by decide) h
  obtain ⟨x2, M2, hx2, k2, e2⟩ := name_dr n false k1
  obtain ⟨x3, M3, hx3, k3, e3⟩ := name_dr n false k2
  obtain ⟨v4, M4, h40, h41, k4, e4⟩ := dr (n + 2) 5 (by decide) (by decide) k3
  obtain ⟨v5, M5, h50, h51, k5, e5⟩ := dr (n + 2) 3 (by decide) (by decide) k4
  obtain ⟨d4, a4, m4⟩ := at_some (l := nums5) (v := v4) h40 (by exact h41)
  obtain ⟨i, rfl, hi0⟩ := nums5_ok d4 m4
  obtain ⟨d5, a5, m5⟩ := at_some (l := [D.int (v1 - 4), .str x2, .tup [.str x3, .int i]]) (v := v5) h50 (by exact h51)
  have ok : IsTerm d5 := by
    simp only [List.mem_cons, List.not_mem_nil, or_false] at m5
    rcases m5 with rfl | rfl | rfl
    · exact .inl ⟨_, rfl⟩
    · exact .inr (.inl ⟨_, hx2, rfl⟩)
    · exact .inr (.inr ⟨_, _, ⟨hx3, hi0⟩, rfl⟩)
  refine ⟨d5, M5, ok, k5, ?_⟩
  have nr : ∀ k, d5 ≠ .ref k := by
    rcases ok with ⟨_, rfl⟩ | ⟨_, _, rfl⟩ | ⟨_, _, _, rfl⟩ <;> (intro k z; cases z)
  show Ul.R fds dat _ _ _ _ = _
  rw [r_step (n := n + 4) (f := 26) (ar := 1) (ns := 1) (b := b26) rfl rfl]
  unfold nums5 at a4
  unfold b26
  simp only [rel_bl, rel_int, rel_str, rel_non, rel_tup, rel_tpx, rel_lst, rel_dic, rel_mls, evSs, evS, evE, evEs, evB, evI, asgT, asgTs, rdV_k, rd_val, rd_mls, b2_k, bd_k, op_k, op_n, fz_val, fz_mls, bl_k, dr_int, dr_bl, dr_non, dr_str, dr_tup, dr_lst, dr_dic, dr_tpx, tru_bl, tru_lst, tru_tup, cm_lt, cm_le, cm_gt, cm_ge, cm_eqi, cm_eqs, cm_nei, cm_nes, bn_add, bn_addt, bn_addl, bn_sub, bn_mulR, bn_mulL, bn_div, bn_mod, bi_lent, bi_lenl, bi_tupt, bi_tupl, bi_listt, bi_listl, bi_int, bi_sum, bi_all, ix_t, ix_l, ix_s, pt_no, pt_i, no_none, no_int, no_v, no_bin, no_neg, sl_t, sl_l, List.map_cons, List.map_nil, List.length_cons, List.length_nil, List.replicate, List.cons_append, List.nil_append, List.getElem?_cons_zero, List.getElem?_cons_succ, List.set_cons_zero, List.set_cons_succ, Option.bind_some, Option.map_some, Option.bind_none, Option.map_none, Nat.reduceAdd, Nat.reduceSub, Nat.reduceLT, Nat.reduceLeDiff, ↓reduceIte, reduceCtorEq, Bool.false_eq_true, Bool.true_and, Bool.and_true, Bool.false_and, Bool.and_false, Bool.not_true, Bool.not_false, if_true, if_false, e1, e2, e3, e4, e5, a4, a5, q5, q3, q2, out_ret, bx_trim h k5, Int.reduceNeg, rel_nr nr]
theorem term_pi {d : D} (h : IsTerm d) : PI 2 1 d := by
  rcases h with ⟨_, rfl⟩ | ⟨x, hx, rfl⟩ | ⟨x, i, hx, rfl⟩
  · trivial
  · have := hx.1; show x.length ≤ 100; omega
  · refine ⟨Nat.le_refl _, fun y hy => ?_⟩
    simp only [List.mem_cons, List.not_mem_nil, or_false] at hy
    rcases hy with rfl | rfl
    · have := hx.1.1; show x.length ≤ 100; omega
    · trivial
theorem spoilt_dr (n : Nat) {d : D} (hd : IsTerm d) {r M : Mem} (h : Bx r M) : ∃ (y : D) (M' : Mem), PV 3 4 y ∧ Bx r M' ∧ calls fds dat (n + 4) 19 [.ref 1, d] M = .ok (.val y, M') := by
  obtain ⟨cs, dd, s, rfl⟩ := h
  obtain ⟨y, cs', d', s', hy, e⟩ := spoilt 2 (by decide) (by decide) 1 n d (term_pi hd) cs dd s r
  exact ⟨y, _, hy, ⟨cs', d', s', rfl⟩, e⟩
end K00


set_option Elab.async false
set_option linter.all false
set_option maxRecDepth 100000
set_option maxHeartbeats 4000000
set_option pp.maxSteps 400
namespace K00
open PySem Ev Ul
open PySem.W (keyToks keyToksAll)
open PyProof.Rows (itemOrd lexLt lex_self lex_diff)
/-- the program's key, the law's pair -/
def ko : D → D
  | .tup l => .tup [.int 2, .tup l]
  | .str x => .tup [.int 1, .str x]
  | d => .tup [.int 0, d]
def ky : D → D
  | .int i => .tup [.int 0, .int i, .int 0]
  | .str x => .tup [.int 1, .str x, .int 0]
  | .tup [a, b] => .tup [.int 2, a, b]
  | d => d
def pr (d : D) : D := .tup [ky d, d]
theorem ko_d (n : Nat) {d : D} (h : IsTerm d) (M : Mem) : calls fds dat (n + 1) 9 [d] M = .ok (.val (ko d), M) := by
  show Ul.R fds dat _ _ _ _ = _
  rw [r_step (f := 9) (ar := 1) (ns := 1) (b := b9) rfl rfl]
  unfold b9
  rcases h with ⟨i, rfl⟩ | ⟨x, _, rfl⟩ | ⟨x, i, _, rfl⟩ <;> simp only [rel_bl, rel_int, rel_str, rel_non, rel_tup, rel_tpx, rel_lst, rel_dic, rel_mls, evSs, evS, evE, evEs, evB, evI, asgT, asgTs, rdV_k, rd_val, rd_mls, b2_k, bd_k, op_k, op_n, fz_val, fz_mls, bl_k, dr_int, dr_bl, dr_non, dr_str, dr_tup, dr_lst, dr_dic, dr_tpx, tru_bl, tru_lst, tru_tup, cm_lt, cm_le, cm_gt, cm_ge, cm_eqi, cm_eqs, cm_nei, cm_nes, bn_add, bn_addt, bn_addl, bn_sub, bn_mulR, bn_mulL, bn_div, bn_mod, bi_lent, bi_lenl, bi_tupt, bi_tupl, bi_listt, bi_listl, bi_int, bi_sum, bi_all, ix_t, ix_l, ix_s, pt_no, pt_i, no_none, no_int, no_v, no_bin, no_neg, sl_t, sl_l, List.map_cons, List.map_nil, List.length_cons, List.length_nil, List.replicate, List.cons_append, List.nil_append, List.getElem?_cons_zero, List.getElem?_cons_succ, List.set_cons_zero, List.set_cons_succ, Option.bind_some, Option.map_some, Option.bind_none, Option.map_none, Nat.reduceAdd, Nat.reduceSub, Nat.reduceLT, Nat.reduceLeDiff, ↓reduceIte, reduceCtorEq, Bool.false_eq_true, Bool.true_and, Bool.and_true, Bool.false_and, Bool.and_false, Bool.not_true, Bool.not_false, if_true, if_false, isTy, q2, ko, out_ret, trimM]
theorem ky_d (n : Nat) {d : D} (h : IsTerm d) (M : Mem) : calls fds dat (n + 1) 27 [d] M = .ok (.val (ky d), M) := by
  show Ul.R fds dat _ _ _ _ = _
  rw [r_step (f := 27) (ar := 1) (ns := 1) (b := b27) rfl rfl]
  unfold b27
  rcases h with ⟨i, rfl⟩ | ⟨x, _, rfl⟩ | ⟨x, i, _, rfl⟩ <;> simp only [rel_bl, rel_int, rel_str, rel_non, rel_tup, rel_tpx, rel_lst, rel_dic, rel_mls, evSs, evS, evE, evEs, evB, evI, asgT, asgTs, rdV_k, rd_val, rd_mls, b2_k, bd_k, op_k, op_n, fz_val, fz_mls, bl_k, dr_int, dr_bl, dr_non, dr_str, dr_tup, dr_lst, dr_dic, dr_tpx, tru_bl, tru_lst, tru_tup, cm_lt, cm_le, cm_gt, cm_ge, cm_eqi, cm_eqs, cm_nei, cm_nes, bn_add, bn_addt, bn_addl, bn_sub, bn_mulR, bn_mulL, bn_div, bn_mod, bi_lent, bi_lenl, bi_tupt, bi_tupl, bi_listt, bi_listl, bi_int, bi_sum, bi_all, ix_t, ix_l, ix_s, pt_no, pt_i, no_none, no_int, no_v, no_bin, no_neg, sl_t, sl_l, List.map_cons, List.map_nil, List.length_cons, List.length_nil, List.replicate, List.cons_append, List.nil_append, List.getElem?_cons_zero, List.getElem?_cons_succ, List.set_cons_zero, List.set_cons_succ, Option.bind_some, Option.map_some, Option.bind_none, Option.map_none, Nat.reduceAdd, Nat.reduceSub, Nat.reduceLT, Nat.reduceLeDiff, ↓reduceIte, reduceCtorEq, Bool.false_eq_true, Bool.true_and, Bool.and_true, Bool.false_and, Bool.and_false, Bool.not_true, Bool.not_false, if_true, if_false, isTy, q3, a0, a1, ky, out_ret, trimM]
theorem tk_i {i j : Int} (h : i ≠ j) : (Sum.inl i : Int ⊕ List Nat) ≠ .inl j := fun z => h (Sum.inl.inj z)
theorem tk_s {a b : Str} (h : a ≠ b) : (Sum.inr a.cps.toList : Int ⊕ List Nat) ≠ .inr b.cps.toList := fun z => h (PySem.W.str_of_cps (Sum.inr.inj z))
abbrev lt (a b : D) : Bool := lexLt itemOrd (keyToks (toPy a)) (keyToks (toPy b))
theorem lt_eq {x y : D} (hx : IsTerm x) (hy : IsTerm y) : lt (ko x) (ko y) = lt (pr x) (pr y) := by
  unfold lt
  rcases hx with ⟨i, rfl⟩ | ⟨x, _, rfl⟩ | ⟨x, i, _, rfl⟩ <;> rcases hy with ⟨j, rfl⟩ | ⟨y, _, rfl⟩ | ⟨y, j, _, rfl⟩ <;>
    simp only [ko, ky, pr, toPy, toPys, keyToks, keyToksAll, List.cons_append, List.nil_append, lex_self (O := itemOrd)]
  · by_cases e : i = j
    · subst e; simp only [lex_self (O := itemOrd)]
    · rw [lex_diff (O := itemOrd) (tk_i e), lex_diff (O := itemOrd) (tk_i e)]
  · rw [lex_diff (O := itemOrd) (tk_i (by decide)), lex_diff (O := itemOrd) (tk_i (by decide))]
  · rw [lex_diff (O := itemOrd) (tk_i (by decide)), lex_diff (O := itemOrd) (tk_i (by decide))]
  · rw [lex_diff (O := itemOrd) (tk_i (by decide)), lex_diff (O := itemOrd) (tk_i (by decide))]
  · by_cases e : x = y
    · subst e; simp only [lex_self (O := itemOrd)]
    · rw [lex_diff (O := itemOrd) (tk_s e), lex_diff (O := itemOrd) (tk_s e)]
  · rw [lex_diff (O := itemOrd) (tk_i (by decide)), lex_diff (O := itemOrd) (tk_i (by decide))]
  · rw [lex_diff (O := itemOrd) (tk_i (by decide)), lex_diff (O := itemOrd) (tk_i (by decide))]
  · rw [lex_diff (O := itemOrd) (tk_i (by decide)), lex_diff (O := itemOrd) (tk_i (by decide))]
  · by_cases e : x = y
    · subst e
      simp only [lex_self (O := itemOrd)]
      by_cases e : i = j
      · subst e; simp only [lex_self (O := itemOrd)]
      · rw [lex_diff (O := itemOrd) (tk_i e), lex_diff (O := itemOrd) (tk_i e)]
    · rw [lex_diff (O := itemOrd) (tk_s e), lex_diff (O := itemOrd) (tk_s e)]
theorem py_of {d : D} (h : IsTerm d) : pyOk (ko d) = true ∧ pyOk (pr d) = true := by
  rcases h with ⟨i, rfl⟩ | ⟨x, _, rfl⟩ | ⟨x, i, _, rfl⟩ <;> exact ⟨rfl, rfl⟩
theorem lay_of {d : D} (h : IsTerm d) : ((toPy (ko d)).canLay0 && decide ((toPy (ko d)).depth ≤ 60)) = true ∧ ((toPy (pr d)).canLay0 && decide ((toPy (pr d)).depth ≤ 60)) = true := by
  rcases h with ⟨i, rfl⟩ | ⟨x, hx, rfl⟩ | ⟨x, i, hx, rfl⟩ 
  · exact ⟨rfl, rfl⟩
  all_goals have h2 : PyData.strOk x = true := by first | exact hx.2 | exact hx.1.2
  all_goals constructor <;> simp [h2, pr, ko, ky, toPy, toPys, PyData.canLay0, PyData.canLayAll0, PyData.depth, PyData.depthAll]
theorem cm_of {x y : D} (hx : IsTerm x) (hy : IsTerm y) : Kz.cm (toPy (ko x)) (toPy (ko y)) = true ∧ Kz.cm (toPy (pr x)) (toPy (pr y)) = true := by
  rcases hx with ⟨i, rfl⟩ | ⟨x, _, rfl⟩ | ⟨x, i, _, rfl⟩ <;> rcases hy with ⟨j, rfl⟩ | ⟨y, _, rfl⟩ | ⟨y, j, _, rfl⟩ <;>
    constructor <;> simp [ko, ky, pr, toPy, toPys, Kz.cm, Kz.cms, PyData.eqv, PyData.eqvAll]
theorem cmOk_map {f : D → D} {l : List D} (h1 : ∀ x ∈ l, pyOk (f x) = true) (h2 : ∀ x ∈ l, hdT (f x) = true) (h3 : ∀ x ∈ l, ∀ y ∈ l, Kz.cm (toPy (f x)) (toPy (f y)) = true) (h4 : ∀ x ∈ l, ((toPy (f x)).canLay0 && decide ((toPy (f x)).depth ≤ 60)) = true) : cmOk (l.map f) = true := by
  unfold cmOk
  rw [Bool.and_eq_true, Bool.and_eq_true, Bool.and_eq_true]
  refine ⟨⟨⟨pyOks_all fun y hy => ?_, ?_⟩, ?_⟩, ?_⟩
  · obtain ⟨x, hx, rfl⟩ := List.mem_map.mp hy; exact h1 x hx
  · rw [Bool.or_eq_true, List.all_eq_true]
    refine .inl fun y hy => ?_
    obtain ⟨x, hx, rfl⟩ := List.mem_map.mp hy; exact h2 x hx
  · rw [List.all_eq_true]
    intro y hy
    rw [List.all_eq_true]
    intro z hz
    obtain ⟨x, hx, rfl⟩ := List.mem_map.mp hy
    obtain ⟨x', hx', rfl⟩ := List.mem_map.mp hz
    exact h3 x hx x' hx'
  · rw [List.all_eq_true]
    intro y hy
    obtain ⟨x, hx, rfl⟩ := List.mem_map.mp hy; exact h4 x hx
theorem hd_of {d : D} (h : IsTerm d) : hdT (ko d) = true := by rcases h with ⟨i, rfl⟩ | ⟨x, _, rfl⟩ | ⟨x, i, _, rfl⟩ <;> rfl
theorem keys_of (n : Nat) : ∀ {l : List D}, (∀ x ∈ l, IsTerm x) → keysC (calls fds dat (n + 1)) 9 l = some (l.map ko)
  | [], _ => rfl
  | x :: l, h => by
    have r0 : rfB0 x = true := by rcases h x List.mem_cons_self with ⟨i, rfl⟩ | ⟨x, _, rfl⟩ | ⟨x, i, _, rfl⟩ <;> rfl
    have ih := keys_of n (l := l) fun y hy => h y (List.mem_cons_of_mem _ hy)
    unfold keysC
    rw [if_pos r0, ko_d n (h x List.mem_cons_self) [], ih]
    rfl
/-- in order -/
def inOrd (l : List D) : List D := l.mergeSort fun x y => !lt (pr y) (pr x)
theorem zip_map {l : List D} {f : D → D} : l.zip (l.map f) = l.map fun x => (x, f x) := by
  induction l with
  | nil => rfl
  | cons x l ih => rw [List.map_cons, List.zip_cons_cons, ih]; rfl
theorem map_snd (l : List D) : (l.map fun x => (x, ko x)).map (·.1) = l := by
  rw [List.map_map]
  exact List.map_id' l
theorem srk_of (n : Nat) {l : List D} (h : ∀ x ∈ l, IsTerm x) : srkD (calls fds dat (n + 1)) 9 l = some (inOrd l) := by
  unfold srkD
  rw [keys_of n h, Option.bind_some, if_pos (cmOk_map (fun x hx => (py_of (h x hx)).1) (fun x hx => hd_of (h x hx)) (fun x hx y hy => (cm_of (h x hx) (h y hy)).1) fun x hx => (lay_of (h x hx)).1)]
  unfold srkL
  rw [zip_map]
  have e := List.map_mergeSort (f := fun x => (x, ko x)) (r := fun x y => !lt (pr y) (pr x)) (s := PySem.W.dataLe false fun p : D × D => toPy p.2) (l := l) fun a ha b hb => by
    show (!lt (pr b) (pr a)) = (!lt (ko b) (ko a))
    rw [lt_eq (h b hb) (h a ha)]
  rw [← e, map_snd]
  rfl
theorem srt_of {l : List D} (h : ∀ x ∈ l, IsTerm x) : srtD (.lst (l.map pr)) = some ((inOrd l).map pr) := by
  rw [srt_lstC (cmOk_map (fun x hx => (py_of (h x hx)).2) (fun x hx => rfl) (fun x hx y hy => (cm_of (h x hx) (h y hy)).2) fun x hx => (lay_of (h x hx)).2)]
  unfold srtL
  have e := List.map_mergeSort (f := pr) (r := fun x y => !lt (pr y) (pr x)) (s := PySem.W.dataLe false toPy) (l := l) fun a ha b hb => rfl
  rw [← e]
  rfl
theorem inOrd_len (l : List D) : (inOrd l).length = l.length := (List.mergeSort_perm _ _).length_eq
theorem inOrd_mem {l : List D} {x : D} : x ∈ inOrd l ↔ x ∈ l := (List.mergeSort_perm _ _).mem_iff
end K00


set_option Elab.async false
set_option linter.all false
set_option maxRecDepth 100000
set_option maxHeartbeats 4000000
set_option pp.maxSteps 400
namespace K00
open PySem Ev Ul
def addD : D → Int → D
  | .int i, m => .int (i + m)
  | .str x, m => if m = 0 then .str x else .tup [.str x, .int m]
  | .tup [.str x, .int k], m => if k + m = 0 then .str x else .tup [.str x, .int (k + m)]
  | d, _ => d
def nameIn : D → D
  | .int _ => .non
  | .tup [.str x, .int _] => .str x
  | d => d
def wholeD : D → Int
  | .tup [.str _, .int k] => k
  | _ => 0
theorem add_d (n : Nat) {d : D} (h : IsTerm d) (m : Int) (M : Mem) : calls fds dat (n + 1) 10 [d, .int m] M = .ok (.val (addD d m), M) := by
  show Ul.R fds dat _ _ _ _ = _
  rw [r_step (f := 10) (ar := 2) (ns := 4) (b := b10) rfl rfl]
  unfold b10
  rcases h with ⟨i, rfl⟩ | ⟨x, _, rfl⟩ | ⟨x, i, _, rfl⟩
  · simp only [rel_bl, rel_int, rel_str, rel_non, rel_tup, rel_tpx, rel_lst, rel_dic, rel_mls, evSs, evS, evE, evEs, evB, evI, asgT, asgTs, rdV_k, rd_val, rd_mls, b2_k, bd_k, op_k, op_n, fz_val, fz_mls, bl_k, dr_int, dr_bl, dr_non, dr_str, dr_tup, dr_lst, dr_dic, dr_tpx, tru_bl, tru_lst, tru_tup, cm_lt, cm_le, cm_gt, cm_ge, cm_eqi, cm_eqs, cm_nei, cm_nes, bn_add, bn_addt, bn_addl, bn_sub, bn_mulR, bn_mulL, bn_div, bn_mod, bi_lent, bi_lenl, bi_tupt, bi_tupl, bi_listt, bi_listl, bi_int, bi_sum, bi_all, ix_t, ix_l, ix_s, pt_no, pt_i, no_none, no_int, no_v, no_bin, no_neg, sl_t, sl_l, List.map_cons, List.map_nil, List.length_cons, List.length_nil, List.replicate, List.cons_append, List.nil_append, List.getElem?_cons_zero, List.getElem?_cons_succ, List.set_cons_zero, List.set_cons_succ, Option.bind_some, Option.map_some, Option.bind_none, Option.map_none, Nat.reduceAdd, Nat.reduceSub, Nat.reduceLT, Nat.reduceLeDiff, ↓reduceIte, reduceCtorEq, Bool.false_eq_true, Bool.true_and, Bool.and_true, Bool.false_and, Bool.and_false, Bool.not_true, Bool.not_false, if_true, if_false, isTy, addD, out_ret, trimM]
  · by_cases hm : m = 0
    · subst hm
      simp only [rel_bl, rel_int, rel_str, rel_non, rel_tup, rel_tpx, rel_lst, rel_dic, rel_mls, evSs, evS, evE, evEs, evB, evI, asgT, asgTs, rdV_k, rd_val, rd_mls, b2_k, bd_k, op_k, op_n, fz_val, fz_mls, bl_k, dr_int, dr_bl, dr_non, dr_str, dr_tup, dr_lst, dr_dic, dr_tpx, tru_bl, tru_lst, tru_tup, cm_lt, cm_le, cm_gt, cm_ge, cm_eqi, cm_eqs, cm_nei, cm_nes, bn_add, bn_addt, bn_addl, bn_sub, bn_mulR, bn_mulL, bn_div, bn_mod, bi_lent, bi_lenl, bi_tupt, bi_tupl, bi_listt, bi_listl, bi_int, bi_sum, bi_all, ix_t, ix_l, ix_s, pt_no, pt_i, no_none, no_int, no_v, no_bin, no_neg, sl_t, sl_l, List.map_cons, List.map_nil, List.length_cons, List.length_nil, List.replicate, List.cons_append, List.nil_append, List.getElem?_cons_zero, List.getElem?_cons_succ, List.set_cons_zero, List.set_cons_succ, Option.bind_some, Option.map_some, Option.bind_none, Option.map_none, Nat.reduceAdd, Nat.reduceSub, Nat.reduceLT, Nat.reduceLeDiff, ↓reduceIte, reduceCtorEq, Bool.false_eq_true, Bool.true_and, Bool.and_true, Bool.false_and, Bool.and_false, Bool.not_true, Bool.not_false, if_true, if_false, isTy, addD, and_self, decide_true, out_ret, trimM]
    · simp only [rel_bl, rel_int, rel_str, rel_non, rel_tup, rel_tpx, rel_lst, rel_dic, rel_mls, evSs, evS, evE, evEs, evB, evI, asgT, asgTs, rdV_k, rd_val, rd_mls, b2_k, bd_k, op_k, op_n, fz_val, fz_mls, bl_k, dr_int, dr_bl, dr_non, dr_str, dr_tup, dr_lst, dr_dic, dr_tpx, tru_bl, tru_lst, tru_tup, cm_lt, cm_le, cm_gt, cm_ge, cm_eqi, cm_eqs, cm_nei, cm_nes, bn_add, bn_addt, bn_addl, bn_sub, bn_mulR, bn_mulL, bn_div, bn_mod, bi_lent, bi_lenl, bi_tupt, bi_tupl, bi_listt, bi_listl, bi_int, bi_sum, bi_all, ix_t, ix_l, ix_s, pt_no, pt_i, no_none, no_int, no_v, no_bin, no_neg, sl_t, sl_l, List.map_cons, List.map_nil, List.length_cons, List.length_nil, List.replicate, List.cons_append, List.nil_append, List.getElem?_cons_zero, List.getElem?_cons_succ, List.set_cons_zero, List.set_cons_succ, Option.bind_some, Option.map_some, Option.bind_none, Option.map_none, Nat.reduceAdd, Nat.reduceSub, Nat.reduceLT, Nat.reduceLeDiff, ↓reduceIte, reduceCtorEq, Bool.false_eq_true, Bool.true_and, Bool.and_true, Bool.false_and, Bool.and_false, Bool.not_true, Bool.not_false, if_true, if_false, isTy, addD, and_self, hm, decide_false, q2, out_ret, trimM]
  · by_cases hm : i + m = 0
    · simp only [rel_bl, rel_int, rel_str, rel_non, rel_tup, rel_tpx, rel_lst, rel_dic, rel_mls, evSs, evS, evE, evEs, evB, evI, asgT, asgTs, rdV_k, rd_val, rd_mls, b2_k, bd_k, op_k, op_n, fz_val, fz_mls, bl_k, dr_int, dr_bl, dr_non, dr_str, dr_tup, dr_lst, dr_dic, dr_tpx, tru_bl, tru_lst, tru_tup, cm_lt, cm_le, cm_gt, cm_ge, cm_eqi, cm_eqs, cm_nei, cm_nes, bn_add, bn_addt, bn_addl, bn_sub, bn_mulR, bn_mulL, bn_div, bn_mod, bi_lent, bi_lenl, bi_tupt, bi_tupl, bi_listt, bi_listl, bi_int, bi_sum, bi_all, ix_t, ix_l, ix_s, pt_no, pt_i, no_none, no_int, no_v, no_bin, no_neg, sl_t, sl_l, List.map_cons, List.map_nil, List.length_cons, List.length_nil, List.replicate, List.cons_append, List.nil_append, List.getElem?_cons_zero, List.getElem?_cons_succ, List.set_cons_zero, List.set_cons_succ, Option.bind_some, Option.map_some, Option.bind_none, Option.map_none, Nat.reduceAdd, Nat.reduceSub, Nat.reduceLT, Nat.reduceLeDiff, ↓reduceIte, reduceCtorEq, Bool.false_eq_true, Bool.true_and, Bool.and_true, Bool.false_and, Bool.and_false, Bool.not_true, Bool.not_false, if_true, if_false, isTy, addD, a0, a1, and_self, hm, decide_true, out_ret, trimM]
    · simp only [rel_bl, rel_int, rel_str, rel_non, rel_tup, rel_tpx, rel_lst, rel_dic, rel_mls, evSs, evS, evE, evEs, evB, evI, asgT, asgTs, rdV_k, rd_val, rd_mls, b2_k, bd_k, op_k, op_n, fz_val, fz_mls, bl_k, dr_int, dr_bl, dr_non, dr_str, dr_tup, dr_lst, dr_dic, dr_tpx, tru_bl, tru_lst, tru_tup, cm_lt, cm_le, cm_gt, cm_ge, cm_eqi, cm_eqs, cm_nei, cm_nes, bn_add, bn_addt, bn_addl, bn_sub, bn_mulR, bn_mulL, bn_div, bn_mod, bi_lent, bi_lenl, bi_tupt, bi_tupl, bi_listt, bi_listl, bi_int, bi_sum, bi_all, ix_t, ix_l, ix_s, pt_no, pt_i, no_none, no_int, no_v, no_bin, no_neg, sl_t, sl_l, List.map_cons, List.map_nil, List.length_cons, List.length_nil, List.replicate, List.cons_append, List.nil_append, List.getElem?_cons_zero, List.getElem?_cons_succ, List.set_cons_zero, List.set_cons_succ, Option.bind_some, Option.map_some, Option.bind_none, Option.map_none, Nat.reduceAdd, Nat.reduceSub, Nat.reduceLT, Nat.reduceLeDiff, ↓reduceIte, reduceCtorEq, Bool.false_eq_true, Bool.true_and, Bool.and_true, Bool.false_and, Bool.and_false, Bool.not_true, Bool.not_false, if_true, if_false, isTy, addD, a0, a1, and_self, hm, decide_false, q2, out_ret, trimM]
theorem name_in_d (n : Nat) {d : D} (h : IsTerm d) (M : Mem) : calls fds dat (n + 1) 11 [d] M = .ok (.val (nameIn d), M) := by
  show Ul.R fds dat _ _ _ _ = _
  rw [r_step (f := 11) (ar := 1) (ns := 1) (b := b11) rfl rfl]
  unfold b11
  rcases h with ⟨i, rfl⟩ | ⟨x, _, rfl⟩ | ⟨x, i, _, rfl⟩ <;> simp only [rel_bl, rel_int, rel_str, rel_non, rel_tup, rel_tpx, rel_lst, rel_dic, rel_mls, evSs, evS, evE, evEs, evB, evI, asgT, asgTs, rdV_k, rd_val, rd_mls, b2_k, bd_k, op_k, op_n, fz_val, fz_mls, bl_k, dr_int, dr_bl, dr_non, dr_str, dr_tup, dr_lst, dr_dic, dr_tpx, tru_bl, tru_lst, tru_tup, cm_lt, cm_le, cm_gt, cm_ge, cm_eqi, cm_eqs, cm_nei, cm_nes, bn_add, bn_addt, bn_addl, bn_sub, bn_mulR, bn_mulL, bn_div, bn_mod, bi_lent, bi_lenl, bi_tupt, bi_tupl, bi_listt, bi_listl, bi_int, bi_sum, bi_all, ix_t, ix_l, ix_s, pt_no, pt_i, no_none, no_int, no_v, no_bin, no_neg, sl_t, sl_l, List.map_cons, List.map_nil, List.length_cons, List.length_nil, List.replicate, List.cons_append, List.nil_append, List.getElem?_cons_zero, List.getElem?_cons_succ, List.set_cons_zero, List.set_cons_succ, Option.bind_some, Option.map_some, Option.bind_none, Option.map_none, Nat.reduceAdd, Nat.reduceSub, Nat.reduceLT, Nat.reduceLeDiff, ↓reduceIte, reduceCtorEq, Bool.false_eq_true, Bool.true_and, Bool.and_true, Bool.false_and, Bool.and_false, Bool.not_true, Bool.not_false, if_true, if_false, isTy, nameIn, a0, out_ret, trimM]
theorem add_zero {d : D} (h : IsTerm d) : addD d 0 = d := by
  rcases h with ⟨i, rfl⟩ | ⟨x, _, rfl⟩ | ⟨x, i, ⟨_, hi⟩, rfl⟩
  · show D.int (i + 0) = _; rw [Int.add_zero]
  · show (if (0 : Int) = 0 then D.str x else D.tup [.str x, .int 0]) = _; rw [if_pos rfl]
  · show (if i + 0 = 0 then D.str x else D.tup [.str x, .int (i + 0)]) = _
    rw [Int.add_zero, if_neg hi]
/-- what comes of it: flat data, or a pair -/
theorem pl_add {d : D} (h : IsTerm d) (m : Int) : Pl 1 (addD d m) := by
  have pair : ∀ (x : Str) (k : Int), Pl 1 (.tup [.str x, .int k]) := fun x k => ⟨by simp, fun y hy => by
    simp only [List.mem_cons, List.not_mem_nil, or_false] at hy
    rcases hy with rfl | rfl <;> trivial⟩
  rcases h with ⟨i, rfl⟩ | ⟨x, _, rfl⟩ | ⟨x, i, _, rfl⟩
  · trivial
  · show Pl 1 (if m = 0 then _ else _); split
    · trivial
    · exact pair _ _
  · show Pl 1 (if i + m = 0 then _ else _); split
    · trivial
    · exact pair _ _
theorem pl_term {d : D} (h : IsTerm d) : Pl 1 d := by
  have := pl_add h 0
  rwa [add_zero h] at this
theorem pl_name {d : D} (h : IsTerm d) : Pl 0 (nameIn d) := by
  rcases h with ⟨i, rfl⟩ | ⟨x, _, rfl⟩ | ⟨x, i, _, rfl⟩ <;> trivial
/-- a dict of one text -/
def tab (x : Str) (o : D) : D := .dic [.inr x] [o]
theorem dct1 {x : Str} {o : D} : dctD (.lst [.tup [.str x, o]]) = some (tab x o) := rfl
theorem lk1 {x y : Str} {o : D} : lkD [.inr y] [o] (.inr x) = if y = x then some o else none := by
  show (if (Sum.inr y : Key) = .inr x then some o else none) = _
  by_cases h : y = x
  · rw [if_pos h, if_pos (by rw [h])]
  · rw [if_neg h, if_neg fun z => h (Sum.inr.inj z)]
theorem in_tab {x y : Str} {o : D} : inD (.str x) (tab y o) = some (decide (y = x)) := by
  show some (lkD [.inr y] [o] (.inr x)).isSome = _
  rw [lk1]
  by_cases h : y = x
  · rw [if_pos h]; simp [h]
  · rw [if_neg h]; simp [h]
theorem nin_tab {x y : Str} {o : D} : cmpD .notin (.str x) (tab y o) = some (!decide (y = x)) := by
  show (inD (.str x) (tab y o)).map _ = _
  rw [in_tab]; rfl
theorem isin_tab {x y : Str} {o : D} : cmpD .isin (.str x) (tab y o) = some (decide (y = x)) := in_tab
theorem isin_tabN {y : Str} {o : D} : cmpD .isin .non (tab y o) = some false := rfl
theorem ix_tab {x : Str} {o : D} : ixD (tab x o) (.str x) = some o := by
  show lkD [.inr x] [o] (.inr x) = some o
  rw [lk1, if_pos rfl]
theorem dr_tab {M : Mem} {x : Str} {o : D} : drD M (tab x o) = tab x o := rfl
def isS (y : Str) : D → Bool
  | .str x => decide (x = y)
  | _ => false
theorem isS_y {y : Str} : isS y (.str y) = true := decide_eq_true rfl
theorem isS_n {x y : Str} (h : ¬ y = x) : isS y (.str x) = false := decide_eq_false fun z => h z.symm
def putT (d : D) (y : Str) (o : D) : D := if isS y (nameIn d) = true then addD o (wholeD d) else d
theorem put_d (n : Nat) {d o : D} (h : IsTerm d) (ho : IsTerm o) (y : Str) (M : Mem) : calls fds dat (n + 2) 12 [d, tab y o] M = .ok (.val (putT d y o), M) := by
  have e1 := name_in_d n h M
  have nr : ∀ k, d ≠ .ref k := by rcases h with ⟨_, rfl⟩ | ⟨_, _, rfl⟩ | ⟨_, _, _, rfl⟩ <;> (intro k z; cases z)
  have nro : ∀ k, o ≠ .ref k := by rcases ho with ⟨_, rfl⟩ | ⟨_, _, rfl⟩ | ⟨_, _, _, rfl⟩ <;> (intro k z; cases z)
  show Ul.R fds dat _ _ _ _ = _
  rw [r_step (f := 12) (ar := 2) (ns := 3) (b := b12) rfl rfl]
  unfold b12 putT
  rcases h with ⟨i, rfl⟩ | ⟨x, _, rfl⟩ | ⟨x, i, _, rfl⟩
  · simp only [nameIn] at e1
    simp only [rel_bl, rel_int, rel_str, rel_non, rel_tup, rel_tpx, rel_lst, rel_dic, rel_mls, evSs, evS, evE, evEs, evB, evI, asgT, asgTs, rdV_k, rd_val, rd_mls, b2_k, bd_k, op_k, op_n, fz_val, fz_mls, bl_k, dr_int, dr_bl, dr_non, dr_str, dr_tup, dr_lst, dr_dic, dr_tpx, tru_bl, tru_lst, tru_tup, cm_lt, cm_le, cm_gt, cm_ge, cm_eqi, cm_eqs, cm_nei, cm_nes, bn_add, bn_addt, bn_addl, bn_sub, bn_mulR, bn_mulL, bn_div, bn_mod, bi_lent, bi_lenl, bi_tupt, bi_tupl, bi_listt, bi_listl, bi_int, bi_sum, bi_all, ix_t, ix_l, ix_s, pt_no, pt_i, no_none, no_int, no_v, no_bin, no_neg, sl_t, sl_l, List.map_cons, List.map_nil, List.length_cons, List.length_nil, List.replicate, List.cons_append, List.nil_append, List.getElem?_cons_zero, List.getElem?_cons_succ, List.set_cons_zero, List.set_cons_succ, Option.bind_some, Option.map_some, Option.bind_none, Option.map_none, Nat.reduceAdd, Nat.reduceSub, Nat.reduceLT, Nat.reduceLeDiff, ↓reduceIte, reduceCtorEq, Bool.false_eq_true, Bool.true_and, Bool.and_true, Bool.false_and, Bool.and_false, Bool.not_true, Bool.not_false, if_true, if_false, e1, isNon, nameIn, isS, out_ret, trimM]
  · simp only [nameIn] at e1
    by_cases hy : y = x
    · subst hy
      rw [show isS y (nameIn (.str y)) = true from isS_y, if_pos rfl, show wholeD (.str y) = 0 from rfl, add_zero ho]
      simp only [rel_bl, rel_int, rel_str, rel_non, rel_tup, rel_tpx, rel_lst, rel_dic, rel_mls, evSs, evS, evE, evEs, evB, evI, asgT, asgTs, rdV_k, rd_val, rd_mls, b2_k, bd_k, op_k, op_n, fz_val, fz_mls, bl_k, dr_int, dr_bl, dr_non, dr_str, dr_tup, dr_lst, dr_dic, dr_tpx, tru_bl, tru_lst, tru_tup, cm_lt, cm_le, cm_gt, cm_ge, cm_eqi, cm_eqs, cm_nei, cm_nes, bn_add, bn_addt, bn_addl, bn_sub, bn_mulR, bn_mulL, bn_div, bn_mod, bi_lent, bi_lenl, bi_tupt, bi_tupl, bi_listt, bi_listl, bi_int, bi_sum, bi_all, ix_t, ix_l, ix_s, pt_no, pt_i, no_none, no_int, no_v, no_bin, no_neg, sl_t, sl_l, List.map_cons, List.map_nil, List.length_cons, List.length_nil, List.replicate, List.cons_append, List.nil_append, List.getElem?_cons_zero, List.getElem?_cons_succ, List.set_cons_zero, List.set_cons_succ, Option.bind_some, Option.map_some, Option.bind_none, Option.map_none, Nat.reduceAdd, Nat.reduceSub, Nat.reduceLT, Nat.reduceLeDiff, ↓reduceIte, reduceCtorEq, Bool.false_eq_true, Bool.true_and, Bool.and_true, Bool.false_and, Bool.and_false, Bool.not_true, Bool.not_false, if_true, if_false, e1, isNon, nin_tab, decide_true, isTy, dr_tab, ix_tab, out_ret, trimM, rel_nr nro]
    · rw [show isS y (nameIn (.str x)) = false from isS_n hy, if_neg Bool.false_ne_true]
      simp only [rel_bl, rel_int, rel_str, rel_non, rel_tup, rel_tpx, rel_lst, rel_dic, rel_mls, evSs, evS, evE, evEs, evB, evI, asgT, asgTs, rdV_k, rd_val, rd_mls, b2_k, bd_k, op_k, op_n, fz_val, fz_mls, bl_k, dr_int, dr_bl, dr_non, dr_str, dr_tup, dr_lst, dr_dic, dr_tpx, tru_bl, tru_lst, tru_tup, cm_lt, cm_le, cm_gt, cm_ge, cm_eqi, cm_eqs, cm_nei, cm_nes, bn_add, bn_addt, bn_addl, bn_sub, bn_mulR, bn_mulL, bn_div, bn_mod, bi_lent, bi_lenl, bi_tupt, bi_tupl, bi_listt, bi_listl, bi_int, bi_sum, bi_all, ix_t, ix_l, ix_s, pt_no, pt_i, no_none, no_int, no_v, no_bin, no_neg, sl_t, sl_l, List.map_cons, List.map_nil, List.length_cons, List.length_nil, List.replicate, List.cons_append, List.nil_append, List.getElem?_cons_zero, List.getElem?_cons_succ, List.set_cons_zero, List.set_cons_succ, Option.bind_some, Option.map_some, Option.bind_none, Option.map_none, Nat.reduceAdd, Nat.reduceSub, Nat.reduceLT, Nat.reduceLeDiff, ↓reduceIte, reduceCtorEq, Bool.false_eq_true, Bool.true_and, Bool.and_true, Bool.false_and, Bool.and_false, Bool.not_true, Bool.not_false, if_true, if_false, e1, isNon, nin_tab, dr_tab, hy, decide_false, out_ret, trimM, rel_nr nr]
  · simp only [nameIn] at e1
    have e2 := add_d n ho i M
    by_cases hy : y = x
    · subst hy
      rw [show isS y (nameIn (.tup [.str y, .int i])) = true from isS_y, if_pos rfl, show wholeD (.tup [.str y, .int i]) = i from rfl]
      have nra : ∀ k, addD o i ≠ .ref k := fun k z => by have := pl_add ho i; rw [z] at this; exact this
      simp only [rel_bl, rel_int, rel_str, rel_non, rel_tup, rel_tpx, rel_lst, rel_dic, rel_mls, evSs, evS, evE, evEs, evB, evI, asgT, asgTs, rdV_k, rd_val, rd_mls, b2_k, bd_k, op_k, op_n, fz_val, fz_mls, bl_k, dr_int, dr_bl, dr_non, dr_str, dr_tup, dr_lst, dr_dic, dr_tpx, tru_bl, tru_lst, tru_tup, cm_lt, cm_le, cm_gt, cm_ge, cm_eqi, cm_eqs, cm_nei, cm_nes, bn_add, bn_addt, bn_addl, bn_sub, bn_mulR, bn_mulL, bn_div, bn_mod, bi_lent, bi_lenl, bi_tupt, bi_tupl, bi_listt, bi_listl, bi_int, bi_sum, bi_all, ix_t, ix_l, ix_s, pt_no, pt_i, no_none, no_int, no_v, no_bin, no_neg, sl_t, sl_l, List.map_cons, List.map_nil, List.length_cons, List.length_nil, List.replicate, List.cons_append, List.nil_append, List.getElem?_cons_zero, List.getElem?_cons_succ, List.set_cons_zero, List.set_cons_succ, Option.bind_some, Option.map_some, Option.bind_none, Option.map_none, Nat.reduceAdd, Nat.reduceSub, Nat.reduceLT, Nat.reduceLeDiff, ↓reduceIte, reduceCtorEq, Bool.false_eq_true, Bool.true_and, Bool.and_true, Bool.false_and, Bool.and_false, Bool.not_true, Bool.not_false, if_true, if_false, e1, isNon, nin_tab, decide_true, isTy, dr_tab, ix_tab, a1, e2, out_ret, trimM, rel_nr nra]
    · rw [show isS y (nameIn (.tup [.str x, .int i])) = false from isS_n hy, if_neg Bool.false_ne_true]
      simp only [rel_bl, rel_int, rel_str, rel_non, rel_tup, rel_tpx, rel_lst, rel_dic, rel_mls, evSs, evS, evE, evEs, evB, evI, asgT, asgTs, rdV_k, rd_val, rd_mls, b2_k, bd_k, op_k, op_n, fz_val, fz_mls, bl_k, dr_int, dr_bl, dr_non, dr_str, dr_tup, dr_lst, dr_dic, dr_tpx, tru_bl, tru_lst, tru_tup, cm_lt, cm_le, cm_gt, cm_ge, cm_eqi, cm_eqs, cm_nei, cm_nes, bn_add, bn_addt, bn_addl, bn_sub, bn_mulR, bn_mulL, bn_div, bn_mod, bi_lent, bi_lenl, bi_tupt, bi_tupl, bi_listt, bi_listl, bi_int, bi_sum, bi_all, ix_t, ix_l, ix_s, pt_no, pt_i, no_none, no_int, no_v, no_bin, no_neg, sl_t, sl_l, List.map_cons, List.map_nil, List.length_cons, List.length_nil, List.replicate, List.cons_append, List.nil_append, List.getElem?_cons_zero, List.getElem?_cons_succ, List.set_cons_zero, List.set_cons_succ, Option.bind_some, Option.map_some, Option.bind_none, Option.map_none, Nat.reduceAdd, Nat.reduceSub, Nat.reduceLT, Nat.reduceLeDiff, ↓reduceIte, reduceCtorEq, Bool.false_eq_true, Bool.true_and, Bool.and_true, Bool.false_and, Bool.and_false, Bool.not_true, Bool.not_false, if_true, if_false, e1, isNon, nin_tab, dr_tab, hy, decide_false, out_ret, trimM, rel_nr nr]
end K00


set_option Elab.async false
set_option linter.all false
set_option maxRecDepth 100000
set_option maxHeartbeats 4000000
set_option pp.maxSteps 400
namespace K00
open PySem Ev Ul
theorem seq_nx {C : Calls} {D' : Nat → D} {t : T} {ts : Ts} {s s' : S} (h : evS C D' t s = .ok (.nx, s')) : evSs C D' (.cons t ts) s = evSs C D' ts s' := by
  simp only [evSs, h, b2_k]
theorem isu_i {i : Int} : ((isTy .int (.int i)).bind fun p => (isTy .str (.int i)).map fun q => p || q) = some true := rfl
theorem isu_s {x : Str} : ((isTy .int (.str x)).bind fun p => (isTy .str (.str x)).map fun q => p || q) = some true := rfl
theorem isu_t {l : List D} : ((isTy .int (.tup l)).bind fun p => (isTy .str (.tup l)).map fun q => p || q) = some false := rfl
theorem smT {C : Nat} {d : D} (h : Pl 1 d) (M : Mem) : calls fds dat (C + 2) 18 [d, d] M = .ok (.val (.bl true), M) := same (D' := dat) (me := 18) (hm := rfl) (Ps := fds) 1 C d h M
/-- one turn of the terms' loop -/
theorem turn_term (n : Nat) {d : D} (hd : IsTerm d) (x0 x2 x3 x4 x5 x6 x7 x8 x9 x10 x11 x12 x13 x14 x15 x16 x17 : Rv) {M : Mem} (h : Bx [] M) :
    ∃ y8 y9 y10 y11 y12 y13 M', Bx [] M' ∧ (opt (asgT (.nm 7) (.val d) [x0, .val (.ref 1), x2, x3, x4, x5, x6, x7, x8, x9, x10, x11, x12, x13, x14, x15, x16, x17])).bind (fun σ => evSs (calls fds dat (n + 6)) dat b30_6 ⟨σ, M⟩) =
      .ok (.nx, ⟨[x0, .val (.ref 1), x2, x3, x4, x5, x6, .val d, y8, y9, y10, y11, y12, y13, x14, x15, x16, x17], M'⟩) := by
  obtain ⟨v, M1, h0, h1, k1, e1⟩ := dr (n + 4) 7 (by decide) (by decide) h
  obtain ⟨o, M2, ho, k2, e2⟩ := term_dr (n + 1) k1
  obtain ⟨w, M3, w0, w1, k3, e3⟩ := dr (n + 4) 2 (by decide) (by decide) k2
  have ha := fun M => add_d (n + 5) hd (v - 3) M
  have hn := fun M => name_in_d (n + 5) hd M
  have sa := fun M => smT (C := n + 4) (pl_add hd (v - 3)) M
  have sn := fun M => smT (C := n + 4) (Pl.mono (pl_name hd) (Nat.zero_le 1)) M
  -- a dict, in either case
  have tb : ∃ (y : Str) (M4 : Mem), Bx [] M4 ∧ evS (calls fds dat (n + 6)) dat (.asg (.nm 13) (.ife (.and (.of (.notn (.v 9))) (.of (.cmp .eq (.call 17 (.cons (.v 1) (.cons (.int 2) .nil))) (.int 0)))) (.dct (.lst (.cons (.tup (.cons (.v 9) (.cons (.v 12) .nil))) .nil))) (.dct (.lst (.cons (.tup (.cons (.str "zzz") (.cons (.v 12) .nil))) .nil)))))
      ⟨[x0, .val (.ref 1), x2, x3, x4, x5, x6, .val d, .val (.int (v - 3)), .val (nameIn d), .val (.int (wholeD d)), .val (addD d (v - 3)), .val o, x13, x14, x15, x16, x17], M2⟩ =
      .ok (.nx, ⟨[x0, .val (.ref 1), x2, x3, x4, x5, x6, .val d, .val (.int (v - 3)), .val (nameIn d), .val (.int (wholeD d)), .val (addD d (v - 3)), .val o, .val (tab y o), x14, x15, x16, x17], M4⟩) := by
    have q1 : (1 : Nat) ≤ seqLine := by decide
    have dx : ∀ M l, drX M (.lst l) = .lst l := fun _ _ => rfl
    have str : ∀ x : Str, nameIn d = .str x → ∃ (y : Str) (M4 : Mem), Bx [] M4 ∧ evS (calls fds dat (n + 6)) dat (.asg (.nm 13) (.ife (.and (.of (.notn (.v 9))) (.of (.cmp .eq (.call 17 (.cons (.v 1) (.cons (.int 2) .nil))) (.int 0)))) (.dct (.lst (.cons (.tup (.cons (.v 9) (.cons (.v 12) .nil))) .nil))) (.dct (.lst (.cons (.tup (.cons (.str "zzz") (.cons (.v 12) .nil))) .nil)))))
      ⟨[x0, .val (.ref 1), x2, x3, x4, x5, x6, .val d, .val (.int (v - 3)), .val (nameIn d), .val (.int (wholeD d)), .val (addD d (v - 3)), .val o, x13, x14, x15, x16, x17], M2⟩ =
      .ok (.nx, ⟨[x0, .val (.ref 1), x2, x3, x4, x5, x6, .val d, .val (.int (v - 3)), .val (nameIn d), .val (.int (wholeD d)), .val (addD d (v - 3)), .val o, .val (tab y o), x14, x15, x16, x17], M4⟩) := by
      intro x hx
      rw [hx]
      by_cases hw : w = 0
      · refine ⟨x, M3, k3, ?_⟩
        simp only [rel_bl, rel_int, rel_str, rel_non, rel_tup, rel_tpx, rel_lst, rel_dic, rel_mls, evSs, evS, evE, evEs, evB, evI, asgT, asgTs, rdV_k, rd_val, rd_mls, b2_k, bd_k, op_k, op_n, fz_val, fz_mls, bl_k, dr_int, dr_bl, dr_non, dr_str, dr_tup, dr_lst, dr_dic, dr_tpx, tru_bl, tru_lst, tru_tup, cm_lt, cm_le, cm_gt, cm_ge, cm_eqi, cm_eqs, cm_nei, cm_nes, bn_add, bn_addt, bn_addl, bn_sub, bn_mulR, bn_mulL, bn_div, bn_mod, bi_lent, bi_lenl, bi_tupt, bi_tupl, bi_listt, bi_listl, bi_int, bi_sum, bi_all, ix_t, ix_l, ix_s, pt_no, pt_i, no_none, no_int, no_v, no_bin, no_neg, sl_t, sl_l, List.map_cons, List.map_nil, List.length_cons, List.length_nil, List.replicate, List.cons_append, List.nil_append, List.getElem?_cons_zero, List.getElem?_cons_succ, List.set_cons_zero, List.set_cons_succ, Option.bind_some, Option.map_some, Option.bind_none, Option.map_none, Nat.reduceAdd, Nat.reduceSub, Nat.reduceLT, Nat.reduceLeDiff, ↓reduceIte, reduceCtorEq, Bool.false_eq_true, Bool.true_and, Bool.and_true, Bool.false_and, Bool.and_false, Bool.not_true, Bool.not_false, if_true, if_false, isNon, e3, hw, decide_true, q1, q2, dx, dct1]
      · refine ⟨"zzz", M3, k3, ?_⟩
        simp only [rel_bl, rel_int, rel_str, rel_non, rel_tup, rel_tpx, rel_lst, rel_dic, rel_mls, evSs, evS, evE, evEs, evB, evI, asgT, asgTs, rdV_k, rd_val, rd_mls, b2_k, bd_k, op_k, op_n, fz_val, fz_mls, bl_k, dr_int, dr_bl, dr_non, dr_str, dr_tup, dr_lst, dr_dic, dr_tpx, tru_bl, tru_lst, tru_tup, cm_lt, cm_le, cm_gt, cm_ge, cm_eqi, cm_eqs, cm_nei, cm_nes, bn_add, bn_addt, bn_addl, bn_sub, bn_mulR, bn_mulL, bn_div, bn_mod, bi_lent, bi_lenl, bi_tupt, bi_tupl, bi_listt, bi_listl, bi_int, bi_sum, bi_all, ix_t, ix_l, ix_s, pt_no, pt_i, no_none, no_int, no_v, no_bin, no_neg, sl_t, sl_l, List.map_cons, List.map_nil, List.length_cons, List.length_nil, List.replicate, List.cons_append, List.nil_append, List.getElem?_cons_zero, List.getElem?_cons_succ, List.set_cons_zero, List.set_cons_succ, Option.bind_some, Option.map_some, Option.bind_none, Option.map_none, Nat.reduceAdd, Nat.reduceSub, Nat.reduceLT, Nat.reduceLeDiff, ↓reduceIte, reduceCtorEq, Bool.false_eq_true, Bool.true_and, Bool.and_true, Bool.false_and, Bool.and_false, Bool.not_true, Bool.not_false, if_true, if_false, isNon, e3, hw, decide_false, q1, q2, dx, dct1]
    rcases hd with ⟨i, rfl⟩ | ⟨x, _, rfl⟩ | ⟨x, i, _, rfl⟩
    · refine ⟨"zzz", M2, k2, ?_⟩
      simp only [rel_bl, rel_int, rel_str, rel_non, rel_tup, rel_tpx, rel_lst, rel_dic, rel_mls, evSs, evS, evE, evEs, evB, evI, asgT, asgTs, rdV_k, rd_val, rd_mls, b2_k, bd_k, op_k, op_n, fz_val, fz_mls, bl_k, dr_int, dr_bl, dr_non, dr_str, dr_tup, dr_lst, dr_dic, dr_tpx, tru_bl, tru_lst, tru_tup, cm_lt, cm_le, cm_gt, cm_ge, cm_eqi, cm_eqs, cm_nei, cm_nes, bn_add, bn_addt, bn_addl, bn_sub, bn_mulR, bn_mulL, bn_div, bn_mod, bi_lent, bi_lenl, bi_tupt, bi_tupl, bi_listt, bi_listl, bi_int, bi_sum, bi_all, ix_t, ix_l, ix_s, pt_no, pt_i, no_none, no_int, no_v, no_bin, no_neg, sl_t, sl_l, List.map_cons, List.map_nil, List.length_cons, List.length_nil, List.replicate, List.cons_append, List.nil_append, List.getElem?_cons_zero, List.getElem?_cons_succ, List.set_cons_zero, List.set_cons_succ, Option.bind_some, Option.map_some, Option.bind_none, Option.map_none, Nat.reduceAdd, Nat.reduceSub, Nat.reduceLT, Nat.reduceLeDiff, ↓reduceIte, reduceCtorEq, Bool.false_eq_true, Bool.true_and, Bool.and_true, Bool.false_and, Bool.and_false, Bool.not_true, Bool.not_false, if_true, if_false, nameIn, isNon, q1, q2, dx, dct1]
    · exact str x rfl
    · exact str x rfl
  obtain ⟨y, M4, k4, e4⟩ := tb
  have hp := put_d (n + 4) hd ho y M4
  have hl := fun m M => add_d (n + 5) ho m M
  have pp : Pl 1 (putT d y o) := by
    unfold putT
    split
    · exact pl_add ho _
    · exact pl_term hd
  have sp := fun M => smT (C := n + 4) pp M
  refine ⟨.val (.int (v - 3)), .val (nameIn d), .val (.int (wholeD d)), .val (addD d (v - 3)), .val o, .val (tab y o), M4, k4, ?_⟩
  show evSs _ _ b30_6 ⟨[x0, .val (.ref 1), x2, x3, x4, x5, x6, .val d, x8, x9, x10, x11, x12, x13, x14, x15, x16, x17], M⟩ = _
  unfold b30_6
  refine (seq_nx (s' := ⟨[x0, .val (.ref 1), x2, x3, x4, x5, x6, .val d, .val (.int (v - 3)), .val (nameIn d), x10, x11, x12, x13, x14, x15, x16, x17], M1⟩) ?_).trans ?_
  · rcases hd with ⟨i, rfl⟩ | ⟨x, _, rfl⟩ | ⟨x, i, _, rfl⟩ <;> simp only [rel_bl, rel_int, rel_str, rel_non, rel_tup, rel_tpx, rel_lst, rel_dic, rel_mls, evSs, evS, evE, evEs, evB, evI, asgT, asgTs, rdV_k, rd_val, rd_mls, b2_k, bd_k, op_k, op_n, fz_val, fz_mls, bl_k, dr_int, dr_bl, dr_non, dr_str, dr_tup, dr_lst, dr_dic, dr_tpx, tru_bl, tru_lst, tru_tup, cm_lt, cm_le, cm_gt, cm_ge, cm_eqi, cm_eqs, cm_nei, cm_nes, bn_add, bn_addt, bn_addl, bn_sub, bn_mulR, bn_mulL, bn_div, bn_mod, bi_lent, bi_lenl, bi_tupt, bi_tupl, bi_listt, bi_listl, bi_int, bi_sum, bi_all, ix_t, ix_l, ix_s, pt_no, pt_i, no_none, no_int, no_v, no_bin, no_neg, sl_t, sl_l, List.map_cons, List.map_nil, List.length_cons, List.length_nil, List.replicate, List.cons_append, List.nil_append, List.getElem?_cons_zero, List.getElem?_cons_succ, List.set_cons_zero, List.set_cons_succ, Option.bind_some, Option.map_some, Option.bind_none, Option.map_none, Nat.reduceAdd, Nat.reduceSub, Nat.reduceLT, Nat.reduceLeDiff, ↓reduceIte, reduceCtorEq, Bool.false_eq_true, Bool.true_and, Bool.and_true, Bool.false_and, Bool.and_false, Bool.not_true, Bool.not_false, if_true, if_false, isTy, nameIn, e1, a0, and_self]
  refine (seq_nx (s' := ⟨[x0, .val (.ref 1), x2, x3, x4, x5, x6, .val d, .val (.int (v - 3)), .val (nameIn d), .val (.int (wholeD d)), x11, x12, x13, x14, x15, x16, x17], M1⟩) ?_).trans ?_
  · rcases hd with ⟨i, rfl⟩ | ⟨x, _, rfl⟩ | ⟨x, i, _, rfl⟩ <;> simp only [rel_bl, rel_int, rel_str, rel_non, rel_tup, rel_tpx, rel_lst, rel_dic, rel_mls, evSs, evS, evE, evEs, evB, evI, asgT, asgTs, rdV_k, rd_val, rd_mls, b2_k, bd_k, op_k, op_n, fz_val, fz_mls, bl_k, dr_int, dr_bl, dr_non, dr_str, dr_tup, dr_lst, dr_dic, dr_tpx, tru_bl, tru_lst, tru_tup, cm_lt, cm_le, cm_gt, cm_ge, cm_eqi, cm_eqs, cm_nei, cm_nes, bn_add, bn_addt, bn_addl, bn_sub, bn_mulR, bn_mulL, bn_div, bn_mod, bi_lent, bi_lenl, bi_tupt, bi_tupl, bi_listt, bi_listl, bi_int, bi_sum, bi_all, ix_t, ix_l, ix_s, pt_no, pt_i, no_none, no_int, no_v, no_bin, no_neg, sl_t, sl_l, List.map_cons, List.map_nil, List.length_cons, List.length_nil, List.replicate, List.cons_append, List.nil_append, List.getElem?_cons_zero, List.getElem?_cons_succ, List.set_cons_zero, List.set_cons_succ, Option.bind_some, Option.map_some, Option.bind_none, Option.map_none, Nat.reduceAdd, Nat.reduceSub, Nat.reduceLT, Nat.reduceLeDiff, ↓reduceIte, reduceCtorEq, Bool.false_eq_true, Bool.true_and, Bool.and_true, Bool.false_and, Bool.and_false, Bool.not_true, Bool.not_false, if_true, if_false, isu_i, isu_s, isu_t, wholeD, a1]
  refine (seq_nx (s' := ⟨[x0, .val (.ref 1), x2, x3, x4, x5, x6, .val d, .val (.int (v - 3)), .val (nameIn d), .val (.int (wholeD d)), .val (addD d (v - 3)), x12, x13, x14, x15, x16, x17], M1⟩) ?_).trans ?_
  · rcases hd with ⟨i, rfl⟩ | ⟨x, _, rfl⟩ | ⟨x, i, _, rfl⟩
    · simp only [rel_bl, rel_int, rel_str, rel_non, rel_tup, rel_tpx, rel_lst, rel_dic, rel_mls, evSs, evS, evE, evEs, evB, evI, asgT, asgTs, rdV_k, rd_val, rd_mls, b2_k, bd_k, op_k, op_n, fz_val, fz_mls, bl_k, dr_int, dr_bl, dr_non, dr_str, dr_tup, dr_lst, dr_dic, dr_tpx, tru_bl, tru_lst, tru_tup, cm_lt, cm_le, cm_gt, cm_ge, cm_eqi, cm_eqs, cm_nei, cm_nes, bn_add, bn_addt, bn_addl, bn_sub, bn_mulR, bn_mulL, bn_div, bn_mod, bi_lent, bi_lenl, bi_tupt, bi_tupl, bi_listt, bi_listl, bi_int, bi_sum, bi_all, ix_t, ix_l, ix_s, pt_no, pt_i, no_none, no_int, no_v, no_bin, no_neg, sl_t, sl_l, List.map_cons, List.map_nil, List.length_cons, List.length_nil, List.replicate, List.cons_append, List.nil_append, List.getElem?_cons_zero, List.getElem?_cons_succ, List.set_cons_zero, List.set_cons_succ, Option.bind_some, Option.map_some, Option.bind_none, Option.map_none, Nat.reduceAdd, Nat.reduceSub, Nat.reduceLT, Nat.reduceLeDiff, ↓reduceIte, reduceCtorEq, Bool.false_eq_true, Bool.true_and, Bool.and_true, Bool.false_and, Bool.and_false, Bool.not_true, Bool.not_false, if_true, if_false, isTy, addD]
    · by_cases hz : v - 3 = 0
      · simp only [rel_bl, rel_int, rel_str, rel_non, rel_tup, rel_tpx, rel_lst, rel_dic, rel_mls, evSs, evS, evE, evEs, evB, evI, asgT, asgTs, rdV_k, rd_val, rd_mls, b2_k, bd_k, op_k, op_n, fz_val, fz_mls, bl_k, dr_int, dr_bl, dr_non, dr_str, dr_tup, dr_lst, dr_dic, dr_tpx, tru_bl, tru_lst, tru_tup, cm_lt, cm_le, cm_gt, cm_ge, cm_eqi, cm_eqs, cm_nei, cm_nes, bn_add, bn_addt, bn_addl, bn_sub, bn_mulR, bn_mulL, bn_div, bn_mod, bi_lent, bi_lenl, bi_tupt, bi_tupl, bi_listt, bi_listl, bi_int, bi_sum, bi_all, ix_t, ix_l, ix_s, pt_no, pt_i, no_none, no_int, no_v, no_bin, no_neg, sl_t, sl_l, List.map_cons, List.map_nil, List.length_cons, List.length_nil, List.replicate, List.cons_append, List.nil_append, List.getElem?_cons_zero, List.getElem?_cons_succ, List.set_cons_zero, List.set_cons_succ, Option.bind_some, Option.map_some, Option.bind_none, Option.map_none, Nat.reduceAdd, Nat.reduceSub, Nat.reduceLT, Nat.reduceLeDiff, ↓reduceIte, reduceCtorEq, Bool.false_eq_true, Bool.true_and, Bool.and_true, Bool.false_and, Bool.and_false, Bool.not_true, Bool.not_false, if_true, if_false, isTy, addD, wholeD, nameIn, Int.zero_add, hz, decide_true]
      · simp only [rel_bl, rel_int, rel_str, rel_non, rel_tup, rel_tpx, rel_lst, rel_dic, rel_mls, evSs, evS, evE, evEs, evB, evI, asgT, asgTs, rdV_k, rd_val, rd_mls, b2_k, bd_k, op_k, op_n, fz_val, fz_mls, bl_k, dr_int, dr_bl, dr_non, dr_str, dr_tup, dr_lst, dr_dic, dr_tpx, tru_bl, tru_lst, tru_tup, cm_lt, cm_le, cm_gt, cm_ge, cm_eqi, cm_eqs, cm_nei, cm_nes, bn_add, bn_addt, bn_addl, bn_sub, bn_mulR, bn_mulL, bn_div, bn_mod, bi_lent, bi_lenl, bi_tupt, bi_tupl, bi_listt, bi_listl, bi_int, bi_sum, bi_all, ix_t, ix_l, ix_s, pt_no, pt_i, no_none, no_int, no_v, no_bin, no_neg, sl_t, sl_l, List.map_cons, List.map_nil, List.length_cons, List.length_nil, List.replicate, List.cons_append, List.nil_append, List.getElem?_cons_zero, List.getElem?_cons_succ, List.set_cons_zero, List.set_cons_succ, Option.bind_some, Option.map_some, Option.bind_none, Option.map_none, Nat.reduceAdd, Nat.reduceSub, Nat.reduceLT, Nat.reduceLeDiff, ↓reduceIte, reduceCtorEq, Bool.false_eq_true, Bool.true_and, Bool.and_true, Bool.false_and, Bool.and_false, Bool.not_true, Bool.not_false, if_true, if_false, isTy, addD, wholeD, nameIn, Int.zero_add, hz, decide_false, q2]
    · by_cases hz : i + (v - 3) = 0
      · simp only [rel_bl, rel_int, rel_str, rel_non, rel_tup, rel_tpx, rel_lst, rel_dic, rel_mls, evSs, evS, evE, evEs, evB, evI, asgT, asgTs, rdV_k, rd_val, rd_mls, b2_k, bd_k, op_k, op_n, fz_val, fz_mls, bl_k, dr_int, dr_bl, dr_non, dr_str, dr_tup, dr_lst, dr_dic, dr_tpx, tru_bl, tru_lst, tru_tup, cm_lt, cm_le, cm_gt, cm_ge, cm_eqi, cm_eqs, cm_nei, cm_nes, bn_add, bn_addt, bn_addl, bn_sub, bn_mulR, bn_mulL, bn_div, bn_mod, bi_lent, bi_lenl, bi_tupt, bi_tupl, bi_listt, bi_listl, bi_int, bi_sum, bi_all, ix_t, ix_l, ix_s, pt_no, pt_i, no_none, no_int, no_v, no_bin, no_neg, sl_t, sl_l, List.map_cons, List.map_nil, List.length_cons, List.length_nil, List.replicate, List.cons_append, List.nil_append, List.getElem?_cons_zero, List.getElem?_cons_succ, List.set_cons_zero, List.set_cons_succ, Option.bind_some, Option.map_some, Option.bind_none, Option.map_none, Nat.reduceAdd, Nat.reduceSub, Nat.reduceLT, Nat.reduceLeDiff, ↓reduceIte, reduceCtorEq, Bool.false_eq_true, Bool.true_and, Bool.and_true, Bool.false_and, Bool.and_false, Bool.not_true, Bool.not_false, if_true, if_false, isTy, addD, wholeD, nameIn, hz, decide_true]
      · simp only [rel_bl, rel_int, rel_str, rel_non, rel_tup, rel_tpx, rel_lst, rel_dic, rel_mls, evSs, evS, evE, evEs, evB, evI, asgT, asgTs, rdV_k, rd_val, rd_mls, b2_k, bd_k, op_k, op_n, fz_val, fz_mls, bl_k, dr_int, dr_bl, dr_non, dr_str, dr_tup, dr_lst, dr_dic, dr_tpx, tru_bl, tru_lst, tru_tup, cm_lt, cm_le, cm_gt, cm_ge, cm_eqi, cm_eqs, cm_nei, cm_nes, bn_add, bn_addt, bn_addl, bn_sub, bn_mulR, bn_mulL, bn_div, bn_mod, bi_lent, bi_lenl, bi_tupt, bi_tupl, bi_listt, bi_listl, bi_int, bi_sum, bi_all, ix_t, ix_l, ix_s, pt_no, pt_i, no_none, no_int, no_v, no_bin, no_neg, sl_t, sl_l, List.map_cons, List.map_nil, List.length_cons, List.length_nil, List.replicate, List.cons_append, List.nil_append, List.getElem?_cons_zero, List.getElem?_cons_succ, List.set_cons_zero, List.set_cons_succ, Option.bind_some, Option.map_some, Option.bind_none, Option.map_none, Nat.reduceAdd, Nat.reduceSub, Nat.reduceLT, Nat.reduceLeDiff, ↓reduceIte, reduceCtorEq, Bool.false_eq_true, Bool.true_and, Bool.and_true, Bool.false_and, Bool.and_false, Bool.not_true, Bool.not_false, if_true, if_false, isTy, addD, wholeD, nameIn, hz, decide_false, q2]
  refine (seq_nx (s' := ⟨[x0, .val (.ref 1), x2, x3, x4, x5, x6, .val d, .val (.int (v - 3)), .val (nameIn d), .val (.int (wholeD d)), .val (addD d (v - 3)), x12, x13, x14, x15, x16, x17], M1⟩) ?_).trans ?_
  · simp only [rel_bl, rel_int, rel_str, rel_non, rel_tup, rel_tpx, rel_lst, rel_dic, rel_mls, evSs, evS, evE, evEs, evB, evI, asgT, asgTs, rdV_k, rd_val, rd_mls, b2_k, bd_k, op_k, op_n, fz_val, fz_mls, bl_k, dr_int, dr_bl, dr_non, dr_str, dr_tup, dr_lst, dr_dic, dr_tpx, tru_bl, tru_lst, tru_tup, cm_lt, cm_le, cm_gt, cm_ge, cm_eqi, cm_eqs, cm_nei, cm_nes, bn_add, bn_addt, bn_addl, bn_sub, bn_mulR, bn_mulL, bn_div, bn_mod, bi_lent, bi_lenl, bi_tupt, bi_tupl, bi_listt, bi_listl, bi_int, bi_sum, bi_all, ix_t, ix_l, ix_s, pt_no, pt_i, no_none, no_int, no_v, no_bin, no_neg, sl_t, sl_l, List.map_cons, List.map_nil, List.length_cons, List.length_nil, List.replicate, List.cons_append, List.nil_append, List.getElem?_cons_zero, List.getElem?_cons_succ, List.set_cons_zero, List.set_cons_succ, Option.bind_some, Option.map_some, Option.bind_none, Option.map_none, Nat.reduceAdd, Nat.reduceSub, Nat.reduceLT, Nat.reduceLeDiff, ↓reduceIte, reduceCtorEq, Bool.false_eq_true, Bool.true_and, Bool.and_true, Bool.false_and, Bool.and_false, Bool.not_true, Bool.not_false, if_true, if_false, ha, sa, hn, sn]
  refine (seq_nx (s' := ⟨[x0, .val (.ref 1), x2, x3, x4, x5, x6, .val d, .val (.int (v - 3)), .val (nameIn d), .val (.int (wholeD d)), .val (addD d (v - 3)), .val o, x13, x14, x15, x16, x17], M2⟩) ?_).trans ?_
  · simp only [rel_bl, rel_int, rel_str, rel_non, rel_tup, rel_tpx, rel_lst, rel_dic, rel_mls, evSs, evS, evE, evEs, evB, evI, asgT, asgTs, rdV_k, rd_val, rd_mls, b2_k, bd_k, op_k, op_n, fz_val, fz_mls, bl_k, dr_int, dr_bl, dr_non, dr_str, dr_tup, dr_lst, dr_dic, dr_tpx, tru_bl, tru_lst, tru_tup, cm_lt, cm_le, cm_gt, cm_ge, cm_eqi, cm_eqs, cm_nei, cm_nes, bn_add, bn_addt, bn_addl, bn_sub, bn_mulR, bn_mulL, bn_div, bn_mod, bi_lent, bi_lenl, bi_tupt, bi_tupl, bi_listt, bi_listl, bi_int, bi_sum, bi_all, ix_t, ix_l, ix_s, pt_no, pt_i, no_none, no_int, no_v, no_bin, no_neg, sl_t, sl_l, List.map_cons, List.map_nil, List.length_cons, List.length_nil, List.replicate, List.cons_append, List.nil_append, List.getElem?_cons_zero, List.getElem?_cons_succ, List.set_cons_zero, List.set_cons_succ, Option.bind_some, Option.map_some, Option.bind_none, Option.map_none, Nat.reduceAdd, Nat.reduceSub, Nat.reduceLT, Nat.reduceLeDiff, ↓reduceIte, reduceCtorEq, Bool.false_eq_true, Bool.true_and, Bool.and_true, Bool.false_and, Bool.and_false, Bool.not_true, Bool.not_false, if_true, if_false, e2]
  refine (seq_nx e4).trans ?_
  refine (seq_nx (s' := ⟨[x0, .val (.ref 1), x2, x3, x4, x5, x6, .val d, .val (.int (v - 3)), .val (nameIn d), .val (.int (wholeD d)), .val (addD d (v - 3)), .val o, .val (tab y o), x14, x15, x16, x17], M4⟩) ?_).trans ?_
  · have str : ∀ x : Str, nameIn d = .str x → evS (calls fds dat (n + 6)) dat (.iff (.not (.of (.call 18 (.cons (.call 12 (.cons (.v 7) (.cons (.v 13) .nil))) (.cons (.ife (.of (.cmp .isin (.v 9) (.v 13))) (.call 10 (.cons (.ix (.v 13) (.v 9)) (.cons (.v 10) .nil))) (.v 7)) .nil))))) (.cons (.ret (.bl false)) .nil) .nil)
        ⟨[x0, .val (.ref 1), x2, x3, x4, x5, x6, .val d, .val (.int (v - 3)), .val (nameIn d), .val (.int (wholeD d)), .val (addD d (v - 3)), .val o, .val (tab y o), x14, x15, x16, x17], M4⟩ =
        .ok (.nx, ⟨[x0, .val (.ref 1), x2, x3, x4, x5, x6, .val d, .val (.int (v - 3)), .val (nameIn d), .val (.int (wholeD d)), .val (addD d (v - 3)), .val o, .val (tab y o), x14, x15, x16, x17], M4⟩) := by
      intro x hx
      by_cases hy : y = x
      · subst hy
        have ep : putT d y o = addD o (wholeD d) := by unfold putT; rw [hx, isS_y, if_pos rfl]
        rw [ep] at hp sp
        rw [hx]
        simp only [rel_bl, rel_int, rel_str, rel_non, rel_tup, rel_tpx, rel_lst, rel_dic, rel_mls, evSs, evS, evE, evEs, evB, evI, asgT, asgTs, rdV_k, rd_val, rd_mls, b2_k, bd_k, op_k, op_n, fz_val, fz_mls, bl_k, dr_int, dr_bl, dr_non, dr_str, dr_tup, dr_lst, dr_dic, dr_tpx, tru_bl, tru_lst, tru_tup, cm_lt, cm_le, cm_gt, cm_ge, cm_eqi, cm_eqs, cm_nei, cm_nes, bn_add, bn_addt, bn_addl, bn_sub, bn_mulR, bn_mulL, bn_div, bn_mod, bi_lent, bi_lenl, bi_tupt, bi_tupl, bi_listt, bi_listl, bi_int, bi_sum, bi_all, ix_t, ix_l, ix_s, pt_no, pt_i, no_none, no_int, no_v, no_bin, no_neg, sl_t, sl_l, List.map_cons, List.map_nil, List.length_cons, List.length_nil, List.replicate, List.cons_append, List.nil_append, List.getElem?_cons_zero, List.getElem?_cons_succ, List.set_cons_zero, List.set_cons_succ, Option.bind_some, Option.map_some, Option.bind_none, Option.map_none, Nat.reduceAdd, Nat.reduceSub, Nat.reduceLT, Nat.reduceLeDiff, ↓reduceIte, reduceCtorEq, Bool.false_eq_true, Bool.true_and, Bool.and_true, Bool.false_and, Bool.and_false, Bool.not_true, Bool.not_false, if_true, if_false, hp, dr_tab, isin_tab, decide_true, ix_tab, hl, sp]
      · have ep : putT d y o = d := by unfold putT; rw [hx, isS_n hy, if_neg Bool.false_ne_true]
        rw [ep] at hp sp
        rw [hx]
        simp only [rel_bl, rel_int, rel_str, rel_non, rel_tup, rel_tpx, rel_lst, rel_dic, rel_mls, evSs, evS, evE, evEs, evB, evI, asgT, asgTs, rdV_k, rd_val, rd_mls, b2_k, bd_k, op_k, op_n, fz_val, fz_mls, bl_k, dr_int, dr_bl, dr_non, dr_str, dr_tup, dr_lst, dr_dic, dr_tpx, tru_bl, tru_lst, tru_tup, cm_lt, cm_le, cm_gt, cm_ge, cm_eqi, cm_eqs, cm_nei, cm_nes, bn_add, bn_addt, bn_addl, bn_sub, bn_mulR, bn_mulL, bn_div, bn_mod, bi_lent, bi_lenl, bi_tupt, bi_tupl, bi_listt, bi_listl, bi_int, bi_sum, bi_all, ix_t, ix_l, ix_s, pt_no, pt_i, no_none, no_int, no_v, no_bin, no_neg, sl_t, sl_l, List.map_cons, List.map_nil, List.length_cons, List.length_nil, List.replicate, List.cons_append, List.nil_append, List.getElem?_cons_zero, List.getElem?_cons_succ, List.set_cons_zero, List.set_cons_succ, Option.bind_some, Option.map_some, Option.bind_none, Option.map_none, Nat.reduceAdd, Nat.reduceSub, Nat.reduceLT, Nat.reduceLeDiff, ↓reduceIte, reduceCtorEq, Bool.false_eq_true, Bool.true_and, Bool.and_true, Bool.false_and, Bool.and_false, Bool.not_true, Bool.not_false, if_true, if_false, hp, dr_tab, isin_tab, hy, decide_false, sp]
    rcases hd with ⟨i, rfl⟩ | ⟨x, _, rfl⟩ | ⟨x, i, _, rfl⟩
    · have ep : putT (.int i) y o = .int i := rfl
      rw [ep] at hp sp
      simp only [rel_bl, rel_int, rel_str, rel_non, rel_tup, rel_tpx, rel_lst, rel_dic, rel_mls, evSs, evS, evE, evEs, evB, evI, asgT, asgTs, rdV_k, rd_val, rd_mls, b2_k, bd_k, op_k, op_n, fz_val, fz_mls, bl_k, dr_int, dr_bl, dr_non, dr_str, dr_tup, dr_lst, dr_dic, dr_tpx, tru_bl, tru_lst, tru_tup, cm_lt, cm_le, cm_gt, cm_ge, cm_eqi, cm_eqs, cm_nei, cm_nes, bn_add, bn_addt, bn_addl, bn_sub, bn_mulR, bn_mulL, bn_div, bn_mod, bi_lent, bi_lenl, bi_tupt, bi_tupl, bi_listt, bi_listl, bi_int, bi_sum, bi_all, ix_t, ix_l, ix_s, pt_no, pt_i, no_none, no_int, no_v, no_bin, no_neg, sl_t, sl_l, List.map_cons, List.map_nil, List.length_cons, List.length_nil, List.replicate, List.cons_append, List.nil_append, List.getElem?_cons_zero, List.getElem?_cons_succ, List.set_cons_zero, List.set_cons_succ, Option.bind_some, Option.map_some, Option.bind_none, Option.map_none, Nat.reduceAdd, Nat.reduceSub, Nat.reduceLT, Nat.reduceLeDiff, ↓reduceIte, reduceCtorEq, Bool.false_eq_true, Bool.true_and, Bool.and_true, Bool.false_and, Bool.and_false, Bool.not_true, Bool.not_false, if_true, if_false, hp, nameIn, dr_tab, isin_tabN, sp]
    · exact str x rfl
    · exact str x rfl
  simp only [evSs]
end K00


set_option Elab.async false
set_option linter.all false
set_option maxRecDepth 100000
set_option maxHeartbeats 4000000
set_option pp.maxSteps 400
namespace K00
open PySem Ev Ul
/-- a number's text -/
def dg (k : Nat) : Str := Str.ofString (toString (k : Int))
def hd (b : Bool) : Str := if b = true then "@_u" else "_u"
def nm (b : Bool) (k : Nat) : Str := hd b ++ dg k
theorem dg_inj : ∀ j k : Nat, j < 20 → k < 20 → dg j = dg k → j = k := by
  have : ∀ j : Fin 20, ∀ k : Fin 20, dg j.1 = dg k.1 → j = k := by decide +kernel
  intro j k hj hk h
  exact congrArg Fin.val (this ⟨j, hj⟩ ⟨k, hk⟩ h)
theorem dg_len : ∀ k : Nat, k < 20 → (dg k).length ≤ 2 := by
  have : ∀ j : Fin 20, (dg j.1).length ≤ 2 := by decide +kernel
  exact fun k hk => this ⟨k, hk⟩
theorem hd_len (b : Bool) : (hd b).length ≤ 3 := by cases b <;> decide
theorem nm_inj {b : Bool} {j k : Nat} (hj : j < 20) (hk : k < 20) (h : nm b j = nm b k) : j = k := by
  refine dg_inj j k hj hk ?_
  have e : (nm b j).cps.toList = (nm b k).cps.toList := by rw [h]
  unfold nm at e
  rw [PySem.Str.cps_append, PySem.Str.cps_append, Array.toList_append, Array.toList_append] at e
  exact PySem.W.str_of_cps (List.append_cancel_left e)
theorem sti_k {k : Nat} (hk : k < 20) : ((k : Int)).natAbs.log2 < 1920 := Nat.lt_of_le_of_lt (Nat.log2_le_self _) (by omega)
theorem nm_add {b : Bool} {k : Nat} (hk : k < 20) : binD .add (.str (hd b)) (.str (dg k)) = some (.val (.str (nm b k))) := bn_adds (le_seq (by have := hd_len b; have := dg_len k hk; omega))
theorem flStrs : ∀ l : List Str, flatDs (l.map D.str) = some (l.map L2.V.str)
  | [] => rfl
  | x :: l => by
    show ((flatDs (l.map D.str)).map fun vs => L2.V.str x :: vs) = _
    rw [flStrs l]
    rfl
theorem in_strs (x : Str) (l : List Str) : inSeq (.str x) (l.map D.str) = some (decide (x ∈ l)) := by
  show ((flatDs (l.map D.str)).map fun vs => L2.inV (.str x) vs) = _
  rw [flStrs]
  show some (L2.inV (.str x) (l.map L2.V.str)) = _
  congr 1
  unfold L2.inV
  induction l with
  | nil => rfl
  | cons y l ih =>
    rw [List.map_cons, List.any_cons, ih]
    have : L2.eqV (.str y) (.str x) = decide (y = x) := rfl
    rw [this]
    by_cases h : y = x
    · subst h; simp
    · have h' : ¬ x = y := fun e => h e.symm
      rw [decide_eq_false h, Bool.false_or]
      simp [h']
/-- names: what is taken -/
structure Nms (N : D) (L : List Str) : Prop where
  i : ∀ x, inD (.str x) N = some (decide (x ∈ L))
  d : ∀ M, drD M N = N
theorem nms_l (L : List Str) : Nms (.lst (L.map D.str)) L := ⟨fun x => in_strs x L, fun _ => rfl⟩
theorem nms_0 : Nms (.tup []) [] := ⟨fun x => rfl, fun _ => rfl⟩
section
variable {N : D} {L : List Str} {b : Bool} {C : Calls} {M : Mem}
theorem wh_test (hN : Nms N L) {k : Nat} (hk : k < 20) : evB C dat (.of (.cmp .isin (.bin .add (.v 3) (.sti (.v 2))) (.v 0))) ⟨[.val N, .val (.bl b), .val (.int (k : Int)), .val (.str (hd b))], M⟩ =
    .ok (decide (nm b k ∈ L), ⟨[.val N, .val (.bl b), .val (.int (k : Int)), .val (.str (hd b))], M⟩) := by
  have h1 := sti_k hk
  have h2 : binD .add (.str (hd b)) (.str (Str.ofString (toString (k : Int)))) = some (.val (.str (nm b k))) := nm_add hk
  have h3 : cmpD .isin (.str (nm b k)) N = some (decide (nm b k ∈ L)) := hN.i _
  have h4 := hN.d M
  simp only [rel_bl, rel_int, rel_str, rel_non, rel_tup, rel_tpx, rel_lst, rel_dic, rel_mls, evSs, evS, evE, evEs, evB, evI, asgT, asgTs, rdV_k, rd_val, rd_mls, b2_k, bd_k, op_k, op_n, fz_val, fz_mls, bl_k, dr_int, dr_bl, dr_non, dr_str, dr_tup, dr_lst, dr_dic, dr_tpx, tru_bl, tru_lst, tru_tup, cm_lt, cm_le, cm_gt, cm_ge, cm_eqi, cm_eqs, cm_nei, cm_nes, bn_add, bn_addt, bn_addl, bn_sub, bn_mulR, bn_mulL, bn_div, bn_mod, bi_lent, bi_lenl, bi_tupt, bi_tupl, bi_listt, bi_listl, bi_int, bi_sum, bi_all, ix_t, ix_l, ix_s, pt_no, pt_i, no_none, no_int, no_v, no_bin, no_neg, sl_t, sl_l, List.map_cons, List.map_nil, List.length_cons, List.length_nil, List.replicate, List.cons_append, List.nil_append, List.getElem?_cons_zero, List.getElem?_cons_succ, List.set_cons_zero, List.set_cons_succ, Option.bind_some, Option.map_some, Option.bind_none, Option.map_none, Nat.reduceAdd, Nat.reduceSub, Nat.reduceLT, Nat.reduceLeDiff, ↓reduceIte, reduceCtorEq, Bool.false_eq_true, Bool.true_and, Bool.and_true, Bool.false_and, Bool.and_false, Bool.not_true, Bool.not_false, if_true, if_false, h1, h2, h3, h4]
theorem wh_free (hN : Nms N L) : ∀ (m k fuel : Nat), k + m < 20 → (∀ i, k ≤ i → i < k + m → nm b i ∈ L) → nm b (k + m) ∉ L → m < fuel →
    whL (evB C dat (.of (.cmp .isin (.bin .add (.v 3) (.sti (.v 2))) (.v 0)))) (evSs C dat b13_0) fuel ⟨[.val N, .val (.bl b), .val (.int (k : Int)), .val (.str (hd b))], M⟩ =
      .ok (.nx, ⟨[.val N, .val (.bl b), .val (.int ((k + m : Nat) : Int)), .val (.str (hd b))], M⟩)
  | _, _, 0, _, _, _, h => absurd h (by omega)
  | 0, k, fuel + 1, hk, _, h2, _ => by
    rw [Nat.add_zero] at h2
    have e := wh_test (C := C) (M := M) (b := b) hN (k := k) (by omega)
    rw [decide_eq_false h2] at e
    simp only [whL, e, b2_k, Bool.false_eq_true, if_false]
    rfl
  | m + 1, k, fuel + 1, hk, h1, h2, hf => by
    have e := wh_test (C := C) (M := M) (b := b) hN (k := k) (by omega)
    rw [decide_eq_true (h1 k (Nat.le_refl _) (by omega))] at e
    have st : evSs C dat b13_0 ⟨[.val N, .val (.bl b), .val (.int (k : Int)), .val (.str (hd b))], M⟩ = .ok (.nx, ⟨[.val N, .val (.bl b), .val (.int ((k + 1 : Nat) : Int)), .val (.str (hd b))], M⟩) := by
      unfold b13_0
      simp only [rel_bl, rel_int, rel_str, rel_non, rel_tup, rel_tpx, rel_lst, rel_dic, rel_mls, evSs, evS, evE, evEs, evB, evI, asgT, asgTs, rdV_k, rd_val, rd_mls, b2_k, bd_k, op_k, op_n, fz_val, fz_mls, bl_k, dr_int, dr_bl, dr_non, dr_str, dr_tup, dr_lst, dr_dic, dr_tpx, tru_bl, tru_lst, tru_tup, cm_lt, cm_le, cm_gt, cm_ge, cm_eqi, cm_eqs, cm_nei, cm_nes, bn_add, bn_addt, bn_addl, bn_sub, bn_mulR, bn_mulL, bn_div, bn_mod, bi_lent, bi_lenl, bi_tupt, bi_tupl, bi_listt, bi_listl, bi_int, bi_sum, bi_all, ix_t, ix_l, ix_s, pt_no, pt_i, no_none, no_int, no_v, no_bin, no_neg, sl_t, sl_l, List.map_cons, List.map_nil, List.length_cons, List.length_nil, List.replicate, List.cons_append, List.nil_append, List.getElem?_cons_zero, List.getElem?_cons_succ, List.set_cons_zero, List.set_cons_succ, Option.bind_some, Option.map_some, Option.bind_none, Option.map_none, Nat.reduceAdd, Nat.reduceSub, Nat.reduceLT, Nat.reduceLeDiff, ↓reduceIte, reduceCtorEq, Bool.false_eq_true, Bool.true_and, Bool.and_true, Bool.false_and, Bool.and_false, Bool.not_true, Bool.not_false, if_true, if_false]
      rfl
    have ih := wh_free hN m (k + 1) fuel (by omega) (fun i hi hj => h1 i (by omega) (by omega)) (by rw [show k + 1 + m = k + (m + 1) by omega]; exact h2) (by omega)
    simp only [whL, e, b2_k, if_true, st]
    rw [ih, show k + 1 + m = k + (m + 1) by omega]
end
theorem fresh_d (n : Nat) {N : D} {L : List Str} (hN : Nms N L) (b : Bool) (j : Nat) (hj : j < 20) (h1 : ∀ i, i < j → nm b i ∈ L) (h2 : nm b j ∉ L) (M : Mem) : calls fds dat (n + 1) 13 [N, .bl b] M = .ok (.val (.str (nm b j)), M) := by
  show Ul.R fds dat _ _ _ _ = _
  rw [r_step (f := 13) (ar := 2) (ns := 4) (b := b13) rfl rfl]
  unfold b13
  have w := wh_free (C := calls fds dat n) (M := M) (b := b) hN j 0 whMost (by omega) (fun i _ hi => h1 i (by omega)) (by rw [Nat.zero_add]; exact h2) (Nat.lt_of_lt_of_le hj (by decide))
  rw [Nat.zero_add] at w
  have key : evSs (calls fds dat n) dat b13 ⟨[.val N, .val (.bl b), .un, .un], M⟩ = .ok (.ret (.val (.str (nm b j))), ⟨[.val N, .val (.bl b), .val (.int (j : Int)), .val (.str (hd b))], M⟩) := by
    unfold b13
    refine (seq_nx (s' := ⟨[.val N, .val (.bl b), .val (.int ((0 : Nat) : Int)), .val (.str (hd b))], M⟩) ?_).trans ?_
    · cases b
      · simp only [rel_bl, rel_int, rel_str, rel_non, rel_tup, rel_tpx, rel_lst, rel_dic, rel_mls, evSs, evS, evE, evEs, evB, evI, asgT, asgTs, rdV_k, rd_val, rd_mls, b2_k, bd_k, op_k, op_n, fz_val, fz_mls, bl_k, dr_int, dr_bl, dr_non, dr_str, dr_tup, dr_lst, dr_dic, dr_tpx, tru_bl, tru_lst, tru_tup, cm_lt, cm_le, cm_gt, cm_ge, cm_eqi, cm_eqs, cm_nei, cm_nes, bn_add, bn_addt, bn_addl, bn_sub, bn_mulR, bn_mulL, bn_div, bn_mod, bi_lent, bi_lenl, bi_tupt, bi_tupl, bi_listt, bi_listl, bi_int, bi_sum, bi_all, ix_t, ix_l, ix_s, pt_no, pt_i, no_none, no_int, no_v, no_bin, no_neg, sl_t, sl_l, List.map_cons, List.map_nil, List.length_cons, List.length_nil, List.replicate, List.cons_append, List.nil_append, List.getElem?_cons_zero, List.getElem?_cons_succ, List.set_cons_zero, List.set_cons_succ, Option.bind_some, Option.map_some, Option.bind_none, Option.map_none, Nat.reduceAdd, Nat.reduceSub, Nat.reduceLT, Nat.reduceLeDiff, ↓reduceIte, reduceCtorEq, Bool.false_eq_true, Bool.true_and, Bool.and_true, Bool.false_and, Bool.and_false, Bool.not_true, Bool.not_false, if_true, if_false, and_self, hd]; rfl
      · simp only [rel_bl, rel_int, rel_str, rel_non, rel_tup, rel_tpx, rel_lst, rel_dic, rel_mls, evSs, evS, evE, evEs, evB, evI, asgT, asgTs, rdV_k, rd_val, rd_mls, b2_k, bd_k, op_k, op_n, fz_val, fz_mls, bl_k, dr_int, dr_bl, dr_non, dr_str, dr_tup, dr_lst, dr_dic, dr_tpx, tru_bl, tru_lst, tru_tup, cm_lt, cm_le, cm_gt, cm_ge, cm_eqi, cm_eqs, cm_nei, cm_nes, bn_add, bn_addt, bn_addl, bn_sub, bn_mulR, bn_mulL, bn_div, bn_mod, bi_lent, bi_lenl, bi_tupt, bi_tupl, bi_listt, bi_listl, bi_int, bi_sum, bi_all, ix_t, ix_l, ix_s, pt_no, pt_i, no_none, no_int, no_v, no_bin, no_neg, sl_t, sl_l, List.map_cons, List.map_nil, List.length_cons, List.length_nil, List.replicate, List.cons_append, List.nil_append, List.getElem?_cons_zero, List.getElem?_cons_succ, List.set_cons_zero, List.set_cons_succ, Option.bind_some, Option.map_some, Option.bind_none, Option.map_none, Nat.reduceAdd, Nat.reduceSub, Nat.reduceLT, Nat.reduceLeDiff, ↓reduceIte, reduceCtorEq, Bool.false_eq_true, Bool.true_and, Bool.and_true, Bool.false_and, Bool.and_false, Bool.not_true, Bool.not_false, if_true, if_false, and_self, hd]; rfl
    refine (seq_nx (s' := ⟨[.val N, .val (.bl b), .val (.int (j : Int)), .val (.str (hd b))], M⟩) ?_).trans ?_
    · show whL _ _ _ _ = _
      exact w
    · have h3 := sti_k hj
      have h4 : binD .add (.str (hd b)) (.str (Str.ofString (toString (j : Int)))) = some (.val (.str (nm b j))) := nm_add hj
      simp only [rel_bl, rel_int, rel_str, rel_non, rel_tup, rel_tpx, rel_lst, rel_dic, rel_mls, evSs, evS, evE, evEs, evB, evI, asgT, asgTs, rdV_k, rd_val, rd_mls, b2_k, bd_k, op_k, op_n, fz_val, fz_mls, bl_k, dr_int, dr_bl, dr_non, dr_str, dr_tup, dr_lst, dr_dic, dr_tpx, tru_bl, tru_lst, tru_tup, cm_lt, cm_le, cm_gt, cm_ge, cm_eqi, cm_eqs, cm_nei, cm_nes, bn_add, bn_addt, bn_addl, bn_sub, bn_mulR, bn_mulL, bn_div, bn_mod, bi_lent, bi_lenl, bi_tupt, bi_tupl, bi_listt, bi_listl, bi_int, bi_sum, bi_all, ix_t, ix_l, ix_s, pt_no, pt_i, no_none, no_int, no_v, no_bin, no_neg, sl_t, sl_l, List.map_cons, List.map_nil, List.length_cons, List.length_nil, List.replicate, List.cons_append, List.nil_append, List.getElem?_cons_zero, List.getElem?_cons_succ, List.set_cons_zero, List.set_cons_succ, Option.bind_some, Option.map_some, Option.bind_none, Option.map_none, Nat.reduceAdd, Nat.reduceSub, Nat.reduceLT, Nat.reduceLeDiff, ↓reduceIte, reduceCtorEq, Bool.false_eq_true, Bool.true_and, Bool.and_true, Bool.false_and, Bool.and_false, Bool.not_true, Bool.not_false, if_true, if_false, h3, h4]
  show outT M.length (evSs (calls fds dat n) dat b13 ⟨[.val N, .val (.bl b), .un, .un], M⟩) = _
  rw [key]
  simp only [out_ret, rel_str, trimM]
end K00


set_option Elab.async false
set_option linter.all false
set_option maxRecDepth 100000
set_option maxHeartbeats 4000000
set_option pp.maxSteps 400
namespace K00
open PySem Ev Ul
/-- the numbers whose names are free -/
def frK (b : Bool) (L : List Str) : List Nat := (List.range 20).filter fun k => !decide (nm b k ∈ L)
theorem frK_mem {b : Bool} {L : List Str} {k : Nat} : k ∈ frK b L ↔ k < 20 ∧ nm b k ∉ L := by
  unfold frK
  rw [List.mem_filter, List.mem_range]
  simp
theorem frK_sorted (b : Bool) (L : List Str) : (frK b L).Pairwise (· < ·) := List.Pairwise.filter _ List.pairwise_lt_range
theorem two_filters {α : Type} (p : α → Bool) : ∀ l : List α, (l.filter p).length + (l.filter fun x => !p x).length = l.length
  | [] => rfl
  | x :: l => by
    have ih := two_filters p l
    cases h : p x <;> simp [h] <;> omega
theorem few (b : Bool) : ∀ (K : List Nat) (L : List Str), K.Nodup → (∀ k ∈ K, k < 20 ∧ nm b k ∈ L) → K.length ≤ L.length
  | [], _, _, _ => Nat.zero_le _
  | k :: K, L, hn, h => by
    obtain ⟨h1, h2⟩ := h k List.mem_cons_self
    rw [List.nodup_cons] at hn
    have ih := few b K (L.erase (nm b k)) hn.2 fun j hj => by
      obtain ⟨a1, a2⟩ := h j (List.mem_cons_of_mem _ hj)
      refine ⟨a1, (List.mem_erase_of_ne fun z => ?_).mpr a2⟩
      have := nm_inj a1 h1 z
      subst this
      exact hn.1 hj
    rw [List.length_erase_of_mem h2] at ih
    have : 0 < L.length := List.length_pos_of_mem h2
    rw [List.length_cons]
    omega
theorem frK_len (b : Bool) {L : List Str} (h : L.length ≤ 17) : 3 ≤ (frK b L).length := by
  have e := two_filters (fun k => decide (nm b k ∈ L)) (List.range 20)
  rw [List.length_range] at e
  have f := few b ((List.range 20).filter fun k => decide (nm b k ∈ L)) L (List.Pairwise.filter _ List.nodup_range) fun k hk => by
    rw [List.mem_filter, List.mem_range] at hk
    exact ⟨hk.1, of_decide_eq_true hk.2⟩
  unfold frK
  omega
/-- the first three -/
theorem frK_three (b : Bool) {L : List Str} (h : L.length ≤ 17) : ∃ k0 k1 k2 r, frK b L = k0 :: k1 :: k2 :: r := by
  have := frK_len b h
  match e : frK b L with
  | [] => rw [e] at this; simp at this
  | [_] => rw [e] at this; simp at this
  | [_, _] => rw [e] at this; simp at this
  | k0 :: k1 :: k2 :: r => exact ⟨k0, k1, k2, r, rfl⟩
theorem first_free {b : Bool} {L : List Str} {k0 : Nat} {r : List Nat} (e : frK b L = k0 :: r) : k0 < 20 ∧ (∀ i, i < k0 → nm b i ∈ L) ∧ nm b k0 ∉ L := by
  have m := frK_mem.mp (e ▸ List.mem_cons_self : k0 ∈ frK b L)
  refine ⟨m.1, fun i hi => ?_, m.2⟩
  rcases Decidable.em (nm b i ∈ L) with h | h
  · exact h
  · have s := frK_sorted b L
    have mi : i ∈ frK b L := frK_mem.mpr ⟨by omega, h⟩
    rw [e] at mi s
    rw [List.pairwise_cons] at s
    rcases List.mem_cons.mp mi with z | z
    · omega
    · have := s.1 i z; omega
/-- with the first taken, the second is the first -/
theorem free_next {b : Bool} {L L' : List Str} {k0 : Nat} {r : List Nat} (e : frK b L = k0 :: r) (hL : ∀ x, x ∈ L' ↔ x ∈ L ∨ x = nm b k0) : frK b L' = r := by
  have s := frK_sorted b L
  have m := frK_mem.mp (e ▸ List.mem_cons_self : k0 ∈ frK b L)
  have hm : ∀ k, k ∈ frK b L' ↔ k ∈ r := fun k => by
    rw [frK_mem, hL]
    constructor
    · rintro ⟨h1, h2⟩
      have h3 : nm b k ∉ L := fun z => h2 (.inl z)
      have h4 : k ∈ frK b L := frK_mem.mpr ⟨h1, h3⟩
      rw [e] at h4
      rcases List.mem_cons.mp h4 with z | z
      · subst z; exact absurd (.inr rfl) h2
      · exact z
    · intro h
      have h4 := frK_mem.mp (e ▸ List.mem_cons_of_mem _ h : k ∈ frK b L)
      refine ⟨h4.1, fun z => z.elim h4.2 fun z => ?_⟩
      have := nm_inj h4.1 m.1 z
      subst this
      rw [e, List.pairwise_cons] at s
      exact absurd (s.1 k h) (Nat.lt_irrefl _)
  rw [e, List.pairwise_cons] at s
  have uniq : ∀ (a c : List Nat), a.Pairwise (· < ·) → c.Pairwise (· < ·) → (∀ x, x ∈ a ↔ x ∈ c) → a = c := by
    intro a
    induction a with
    | nil => intro c _ _ h; cases c with
      | nil => rfl
      | cons y c => exact absurd ((h y).mpr List.mem_cons_self) (by simp)
    | cons x a ih =>
      intro c ha hc h
      cases c with
      | nil => exact absurd ((h x).mp List.mem_cons_self) (by simp)
      | cons y c =>
        rw [List.pairwise_cons] at ha hc
        have exy : x = y := by
          rcases List.mem_cons.mp ((h x).mp List.mem_cons_self) with z | z
          · exact z
          · rcases List.mem_cons.mp ((h y).mpr List.mem_cons_self) with z' | z'
            · exact z'.symm
            · have := ha.1 y z'; have := hc.1 x z; omega
        subst exy
        rw [ih c ha.2 hc.2 fun z => ?_]
        have hz := h z
        constructor
        · intro k
          rcases List.mem_cons.mp (hz.mp (List.mem_cons_of_mem _ k)) with q | q
          · have := ha.1 z k; omega
          · exact q
        · intro k
          rcases List.mem_cons.mp (hz.mpr (List.mem_cons_of_mem _ k)) with q | q
          · have := hc.1 z k; omega
          · exact q
  exact uniq _ _ (frK_sorted b L') s.2 hm
/-- the three names -/
def three (b : Bool) (k0 k1 k2 : Nat) : List D := [.str (nm b k0), .str (nm b k1), .str (nm b k2)]
theorem fresh_names_d (n : Nat) (b : Bool) {L : List Str} (hl : L.length ≤ 14) {k0 k1 k2 : Nat} {r : List Nat} (e : frK b L = k0 :: k1 :: k2 :: r) {M : Mem} (hM : M.all (moB M.length) = true) :
    calls fds dat (n + 2) 14 [.int 3, .bl b, .lst (L.map D.str)] M = .ok (.mls (three b k0 k1 k2), M) := by
  have w : ∀ (L' : List Str) (k : Nat) (r : List Nat), frK b L' = k :: r → ∀ M, calls fds dat (n + 1) 13 [.lst (L'.map D.str), .bl b] M = .ok (.val (.str (nm b k)), M) := fun L' k r e M => by
    obtain ⟨h1, h2, h3⟩ := first_free e
    exact fresh_d n (nms_l L') b k h1 h2 h3 M
  have e1 : frK b (L ++ [nm b k0]) = k1 :: k2 :: r := free_next e fun x => by simp
  have e2 : frK b (L ++ [nm b k0, nm b k1]) = k2 :: r := free_next e1 fun x => by simp [or_assoc]
  have w0 := w L k0 _ e
  have w1 := w _ k1 _ e1
  have w2 := w _ k2 _ e2
  rw [List.map_append] at w1 w2
  simp only [List.map_cons, List.map_nil] at w1 w2
  have app : ∀ (f : List D) (y : Str) (tn : Rv), f.length ≤ 3 → (∀ M, calls fds dat (n + 1) 13 [.lst (L.map D.str ++ f), .bl b] M = .ok (.val (.str y), M)) →
      evSs (calls fds dat (n + 1)) dat b14_0 ⟨[.val (.int 3), .val (.bl b), .val (.lst (L.map D.str)), .val (.ref M.length), tn], M ++ [.l f]⟩ = .ok (.nx, ⟨[.val (.int 3), .val (.bl b), .val (.lst (L.map D.str)), .val (.ref M.length), tn], M ++ [.l (f ++ [.str y])]⟩) := by
    intro f y tn hf hc
    have g : (M ++ [MO.l f])[M.length]? = some (.l f) := by simp
    have il : isL ⟨[.val (.int 3), .val (.bl b), .val (.lst (L.map D.str)), .val (.ref M.length), tn], M ++ [.l f]⟩ 3 = true := by
      show (match (M ++ [MO.l f])[M.length]? with | some (.l _) => true | _ => false) = true
      rw [g]
    have sm : (L.map D.str).length + f.length ≤ seqLine := le_seq (by rw [List.length_map]; omega)
    have sf : f.length < seqLine := lt_seq (by omega)
    have st : (M ++ [MO.l f]).set M.length (.l (f ++ [.str y])) = M ++ [.l (f ++ [.str y])] := by simp
    unfold b14_0
    simp only [rel_bl, rel_int, rel_str, rel_non, rel_tup, rel_tpx, rel_lst, rel_dic, rel_mls, evSs, evS, evE, evEs, evB, evI, asgT, asgTs, rdV_k, rd_val, rd_mls, b2_k, bd_k, op_k, op_n, fz_val, fz_mls, bl_k, dr_int, dr_bl, dr_non, dr_str, dr_tup, dr_lst, dr_dic, dr_tpx, tru_bl, tru_lst, tru_tup, cm_lt, cm_le, cm_gt, cm_ge, cm_eqi, cm_eqs, cm_nei, cm_nes, bn_add, bn_addt, bn_addl, bn_sub, bn_mulR, bn_mulL, bn_div, bn_mod, bi_lent, bi_lenl, bi_tupt, bi_tupl, bi_listt, bi_listl, bi_int, bi_sum, bi_all, ix_t, ix_l, ix_s, pt_no, pt_i, no_none, no_int, no_v, no_bin, no_neg, sl_t, sl_l, List.map_cons, List.map_nil, List.length_cons, List.length_nil, List.replicate, List.cons_append, List.nil_append, List.getElem?_cons_zero, List.getElem?_cons_succ, List.set_cons_zero, List.set_cons_succ, Option.bind_some, Option.map_some, Option.bind_none, Option.map_none, Nat.reduceAdd, Nat.reduceSub, Nat.reduceLT, Nat.reduceLeDiff, ↓reduceIte, reduceCtorEq, Bool.false_eq_true, Bool.true_and, Bool.and_true, Bool.false_and, Bool.and_false, Bool.not_true, Bool.not_false, if_true, if_false, il, dr_ref, g, drO_l, sm, hc, sf, st]
  show Ul.R fds dat _ _ _ _ = _
  rw [r_step (f := 14) (ar := 3) (ns := 5) (b := b14) rfl rfl]
  have rg : rng2D (.int 0) (.int 3) = some [.int 0, .int 1, .int 2] := rng_ok (n := 3) (by decide)
  have lp : evS (calls fds dat (n + 1)) dat b14_1 ⟨[.val (.int 3), .val (.bl b), .val (.lst (L.map D.str)), .val (.ref M.length), .un], M ++ [.l []]⟩ =
      .ok (.nx, ⟨[.val (.int 3), .val (.bl b), .val (.lst (L.map D.str)), .val (.ref M.length), .val (.int 2)], M ++ [.l (three b k0 k1 k2)]⟩) := by
    have a0' := app [] _ (.val (.int 0)) (by simp) (by rw [List.append_nil]; exact w0)
    have a1' := app [.str (nm b k0)] _ (.val (.int 1)) (by simp) w1
    have a2' := app [.str (nm b k0), .str (nm b k1)] _ (.val (.int 2)) (by simp) w2
    have hi : evI (calls fds dat (n + 1)) dat (.rng1 (.v 0)) ⟨[.val (.int 3), .val (.bl b), .val (.lst (L.map D.str)), .val (.ref M.length), .un], M ++ [.l []]⟩ = .ok ([.int 0, .int 1, .int 2], ⟨[.val (.int 3), .val (.bl b), .val (.lst (L.map D.str)), .val (.ref M.length), .un], M ++ [.l []]⟩) := by
      simp only [rel_bl, rel_int, rel_str, rel_non, rel_tup, rel_tpx, rel_lst, rel_dic, rel_mls, evSs, evS, evE, evEs, evB, evI, asgT, asgTs, rdV_k, rd_val, rd_mls, b2_k, bd_k, op_k, op_n, fz_val, fz_mls, bl_k, dr_int, dr_bl, dr_non, dr_str, dr_tup, dr_lst, dr_dic, dr_tpx, tru_bl, tru_lst, tru_tup, cm_lt, cm_le, cm_gt, cm_ge, cm_eqi, cm_eqs, cm_nei, cm_nes, bn_add, bn_addt, bn_addl, bn_sub, bn_mulR, bn_mulL, bn_div, bn_mod, bi_lent, bi_lenl, bi_tupt, bi_tupl, bi_listt, bi_listl, bi_int, bi_sum, bi_all, ix_t, ix_l, ix_s, pt_no, pt_i, no_none, no_int, no_v, no_bin, no_neg, sl_t, sl_l, List.map_cons, List.map_nil, List.length_cons, List.length_nil, List.replicate, List.cons_append, List.nil_append, List.getElem?_cons_zero, List.getElem?_cons_succ, List.set_cons_zero, List.set_cons_succ, Option.bind_some, Option.map_some, Option.bind_none, Option.map_none, Nat.reduceAdd, Nat.reduceSub, Nat.reduceLT, Nat.reduceLeDiff, ↓reduceIte, reduceCtorEq, Bool.false_eq_true, Bool.true_and, Bool.and_true, Bool.false_and, Bool.and_false, Bool.not_true, Bool.not_false, if_true, if_false, rg]
    unfold b14_1
    rw [evS, hi, b2_k]
    rw [forL_nx (s' := ⟨[.val (.int 3), .val (.bl b), .val (.lst (L.map D.str)), .val (.ref M.length), .val (.int 0)], M ++ [.l [.str (nm b k0)]]⟩) a0']
    rw [forL_nx (s' := ⟨[.val (.int 3), .val (.bl b), .val (.lst (L.map D.str)), .val (.ref M.length), .val (.int 1)], M ++ [.l [.str (nm b k0), .str (nm b k1)]]⟩) a1']
    rw [forL_nx (s' := ⟨[.val (.int 3), .val (.bl b), .val (.lst (L.map D.str)), .val (.ref M.length), .val (.int 2)], M ++ [.l (three b k0 k1 k2)]⟩) a2']
    rfl
  have key : evSs (calls fds dat (n + 1)) dat b14 ⟨[.val (.int 3), .val (.bl b), .val (.lst (L.map D.str)), .un, .un], M⟩ = .ok (.ret (.val (.ref M.length)), ⟨[.val (.int 3), .val (.bl b), .val (.lst (L.map D.str)), .val (.ref M.length), .val (.int 2)], M ++ [.l (three b k0 k1 k2)]⟩) := by
    unfold b14
    refine (seq_nx (s' := ⟨[.val (.int 3), .val (.bl b), .val (.lst (L.map D.str)), .val (.ref M.length), .un], M ++ [.l []]⟩) ?_).trans ?_
    · have q0 : (0 : Nat) ≤ seqLine := Nat.zero_le _
      simp only [rel_bl, rel_int, rel_str, rel_non, rel_tup, rel_tpx, rel_lst, rel_dic, rel_mls, evSs, evS, evE, evEs, evB, evI, asgT, asgTs, rdV_k, rd_val, rd_mls, b2_k, bd_k, op_k, op_n, fz_val, fz_mls, bl_k, dr_int, dr_bl, dr_non, dr_str, dr_tup, dr_lst, dr_dic, dr_tpx, tru_bl, tru_lst, tru_tup, cm_lt, cm_le, cm_gt, cm_ge, cm_eqi, cm_eqs, cm_nei, cm_nes, bn_add, bn_addt, bn_addl, bn_sub, bn_mulR, bn_mulL, bn_div, bn_mod, bi_lent, bi_lenl, bi_tupt, bi_tupl, bi_listt, bi_listl, bi_int, bi_sum, bi_all, ix_t, ix_l, ix_s, pt_no, pt_i, no_none, no_int, no_v, no_bin, no_neg, sl_t, sl_l, List.map_cons, List.map_nil, List.length_cons, List.length_nil, List.replicate, List.cons_append, List.nil_append, List.getElem?_cons_zero, List.getElem?_cons_succ, List.set_cons_zero, List.set_cons_succ, Option.bind_some, Option.map_some, Option.bind_none, Option.map_none, Nat.reduceAdd, Nat.reduceSub, Nat.reduceLT, Nat.reduceLeDiff, ↓reduceIte, reduceCtorEq, Bool.false_eq_true, Bool.true_and, Bool.and_true, Bool.false_and, Bool.and_false, Bool.not_true, Bool.not_false, if_true, if_false, q0]
    refine (seq_nx lp).trans ?_
    simp only [rel_bl, rel_int, rel_str, rel_non, rel_tup, rel_tpx, rel_lst, rel_dic, rel_mls, evSs, evS, evE, evEs, evB, evI, asgT, asgTs, rdV_k, rd_val, rd_mls, b2_k, bd_k, op_k, op_n, fz_val, fz_mls, bl_k, dr_int, dr_bl, dr_non, dr_str, dr_tup, dr_lst, dr_dic, dr_tpx, tru_bl, tru_lst, tru_tup, cm_lt, cm_le, cm_gt, cm_ge, cm_eqi, cm_eqs, cm_nei, cm_nes, bn_add, bn_addt, bn_addl, bn_sub, bn_mulR, bn_mulL, bn_div, bn_mod, bi_lent, bi_lenl, bi_tupt, bi_tupl, bi_listt, bi_listl, bi_int, bi_sum, bi_all, ix_t, ix_l, ix_s, pt_no, pt_i, no_none, no_int, no_v, no_bin, no_neg, sl_t, sl_l, List.map_cons, List.map_nil, List.length_cons, List.length_nil, List.replicate, List.cons_append, List.nil_append, List.getElem?_cons_zero, List.getElem?_cons_succ, List.set_cons_zero, List.set_cons_succ, Option.bind_some, Option.map_some, Option.bind_none, Option.map_none, Nat.reduceAdd, Nat.reduceSub, Nat.reduceLT, Nat.reduceLeDiff, ↓reduceIte, reduceCtorEq, Bool.false_eq_true, Bool.true_and, Bool.and_true, Bool.false_and, Bool.and_false, Bool.not_true, Bool.not_false, if_true, if_false]
  show outT M.length (evSs (calls fds dat (n + 1)) dat b14 ⟨[.val (.int 3), .val (.bl b), .val (.lst (L.map D.str)), .un, .un], M⟩) = _
  rw [key, out_ret]
  have tk : (M ++ [MO.l (three b k0 k1 k2)]).take M.length = M := by simp
  rw [rel_new (l := three b k0 k1 k2) (by simp) (Nat.le_refl _) rfl (by rw [tk]; exact hM)]
  congr 2
  unfold Ev.trim
  rw [if_neg (by rw [List.length_append]; simp), tk, if_pos (by rw [hM]; rfl)]
theorem box_all {M : Mem} (h : Bx [] M) : M.all (moB M.length) = true := by
  obtain ⟨cs, d, s, rfl⟩ := h
  show (moB 2 (.l (cs.map D.int)) && (moB 2 (.l [.ref 0, .int d, .int s]) && true)) = true
  have : moB 2 (.l (cs.map D.int)) = true := rfs_ints 2 cs
  rw [this]
  rfl
end K00


set_option Elab.async false
set_option linter.all false
set_option maxRecDepth 100000
set_option maxHeartbeats 4000000
set_option pp.maxSteps 400
namespace K00
open PySem Ev Ul
/-! ### fresh names, seen by the law -/
theorem cm_nins {x : Str} {L : List Str} : cmpD .notin (.str x) (.lst (L.map D.str)) = some (!decide (x ∈ L)) := by
  show (inSeq (.str x) (L.map D.str)).map _ = _
  rw [in_strs]; rfl
theorem due_turns (C : Calls) (b : Bool) (L : List Str) (x0 x1 x2 x3 x4 x5 x6 x7 x8 x9 x10 x11 x12 x13 : Rv) (M : Mem) : ∀ (m k : Nat), k + m ≤ 20 → TurnsL C dat [17] (.nm 17) (.of (.cmp .notin (.bin .add (.v 16) (.sti (.v 17))) (.v 14))) b30_0 [x0, x1, x2, x3, x4, x5, x6, x7, x8, x9, x10, x11, x12, x13, .val (.lst (L.map D.str)), .val (.bl b), .val (.str (hd b)), .un] (rngD (k : Int) 1 m) M (((List.range' k m).filter fun k => !decide (nm b k ∈ L)).map fun k => .str (nm b k)) M := by
  intro m
  induction m with
  | zero => intro k _; exact .nil
  | succ m ih =>
    intro k hk
    rw [rng_s]
    have h3 := sti_k (k := k) (by omega)
    have h4 : binD .add (.str (hd b)) (.str (Str.ofString (toString (k : Int)))) = some (.val (.str (nm b k))) := nm_add (by omega)
    have t := ih (k + 1) (by omega)
    have e1 : evB C dat (.of (.cmp .notin (.bin .add (.v 16) (.sti (.v 17))) (.v 14))) ⟨[x0, x1, x2, x3, x4, x5, x6, x7, x8, x9, x10, x11, x12, x13, .val (.lst (L.map D.str)), .val (.bl b), .val (.str (hd b)), .val (.int (k : Int))], M⟩ =
        .ok (!decide (nm b k ∈ L), ⟨[x0, x1, x2, x3, x4, x5, x6, x7, x8, x9, x10, x11, x12, x13, .val (.lst (L.map D.str)), .val (.bl b), .val (.str (hd b)), .val (.int (k : Int))], M⟩) := by
      simp only [rel_bl, rel_int, rel_str, rel_non, rel_tup, rel_tpx, rel_lst, rel_dic, rel_mls, evSs, evS, evE, evEs, evB, evI, asgT, asgTs, rdV_k, rd_val, rd_mls, b2_k, bd_k, op_k, op_n, fz_val, fz_mls, bl_k, dr_int, dr_bl, dr_non, dr_str, dr_tup, dr_lst, dr_dic, dr_tpx, tru_bl, tru_lst, tru_tup, cm_lt, cm_le, cm_gt, cm_ge, cm_eqi, cm_eqs, cm_nei, cm_nes, bn_add, bn_addt, bn_addl, bn_sub, bn_mulR, bn_mulL, bn_div, bn_mod, bi_lent, bi_lenl, bi_tupt, bi_tupl, bi_listt, bi_listl, bi_int, bi_sum, bi_all, ix_t, ix_l, ix_s, pt_no, pt_i, no_none, no_int, no_v, no_bin, no_neg, sl_t, sl_l, List.map_cons, List.map_nil, List.length_cons, List.length_nil, List.replicate, List.cons_append, List.nil_append, List.getElem?_cons_zero, List.getElem?_cons_succ, List.set_cons_zero, List.set_cons_succ, Option.bind_some, Option.map_some, Option.bind_none, Option.map_none, Nat.reduceAdd, Nat.reduceSub, Nat.reduceLT, Nat.reduceLeDiff, ↓reduceIte, reduceCtorEq, Bool.false_eq_true, Bool.true_and, Bool.and_true, Bool.false_and, Bool.and_false, Bool.not_true, Bool.not_false, if_true, if_false, h3, h4, cm_nins]
    have e2 : evE C dat b30_0 ⟨[x0, x1, x2, x3, x4, x5, x6, x7, x8, x9, x10, x11, x12, x13, .val (.lst (L.map D.str)), .val (.bl b), .val (.str (hd b)), .val (.int (k : Int))], M⟩ =
        .ok (.val (.str (nm b k)), ⟨[x0, x1, x2, x3, x4, x5, x6, x7, x8, x9, x10, x11, x12, x13, .val (.lst (L.map D.str)), .val (.bl b), .val (.str (hd b)), .val (.int (k : Int))], M⟩) := by
      unfold b30_0
      simp only [rel_bl, rel_int, rel_str, rel_non, rel_tup, rel_tpx, rel_lst, rel_dic, rel_mls, evSs, evS, evE, evEs, evB, evI, asgT, asgTs, rdV_k, rd_val, rd_mls, b2_k, bd_k, op_k, op_n, fz_val, fz_mls, bl_k, dr_int, dr_bl, dr_non, dr_str, dr_tup, dr_lst, dr_dic, dr_tpx, tru_bl, tru_lst, tru_tup, cm_lt, cm_le, cm_gt, cm_ge, cm_eqi, cm_eqs, cm_nei, cm_nes, bn_add, bn_addt, bn_addl, bn_sub, bn_mulR, bn_mulL, bn_div, bn_mod, bi_lent, bi_lenl, bi_tupt, bi_tupl, bi_listt, bi_listl, bi_int, bi_sum, bi_all, ix_t, ix_l, ix_s, pt_no, pt_i, no_none, no_int, no_v, no_bin, no_neg, sl_t, sl_l, List.map_cons, List.map_nil, List.length_cons, List.length_nil, List.replicate, List.cons_append, List.nil_append, List.getElem?_cons_zero, List.getElem?_cons_succ, List.set_cons_zero, List.set_cons_succ, Option.bind_some, Option.map_some, Option.bind_none, Option.map_none, Nat.reduceAdd, Nat.reduceSub, Nat.reduceLT, Nat.reduceLeDiff, ↓reduceIte, reduceCtorEq, Bool.false_eq_true, Bool.true_and, Bool.and_true, Bool.false_and, Bool.and_false, Bool.not_true, Bool.not_false, if_true, if_false, h3, h4]
    cases hb : decide (nm b k ∈ L) with
    | true =>
      rw [hb] at e1
      have t1 : Turn1 C dat [17] (.nm 17) (.of (.cmp .notin (.bin .add (.v 16) (.sti (.v 17))) (.v 14))) b30_0 [x0, x1, x2, x3, x4, x5, x6, x7, x8, x9, x10, x11, x12, x13, .val (.lst (L.map D.str)), .val (.bl b), .val (.str (hd b)), .un] M (.int (k : Int)) none M :=
        ⟨_, _, _, M, false, rfl, e1, ⟨rfl, rfl, rfl⟩, rfl⟩
      have := TurnsL.cons t1 t
      rw [List.range'_succ, List.filter_cons, hb]
      simpa using this
    | false =>
      rw [hb] at e1
      have t1 : Turn1 C dat [17] (.nm 17) (.of (.cmp .notin (.bin .add (.v 16) (.sti (.v 17))) (.v 14))) b30_0 [x0, x1, x2, x3, x4, x5, x6, x7, x8, x9, x10, x11, x12, x13, .val (.lst (L.map D.str)), .val (.bl b), .val (.str (hd b)), .un] M (.int (k : Int)) (some (.str (nm b k))) M :=
        ⟨_, _, _, M, true, rfl, e1, ⟨_, e2, rfl⟩, rfl⟩
      have := TurnsL.cons t1 t
      rw [List.range'_succ, List.filter_cons, hb]
      simpa using this
/-- what the law says is due -/
theorem due_ev (C : Calls) (b : Bool) (L : List Str) (x0 x1 x2 x3 x4 x5 x6 x7 x8 x9 x10 x11 x12 x13 x17 : Rv) (hx : ∀ l, x17 ≠ .mls l) (M : Mem) :
    evE C dat b30_1 ⟨[x0, x1, x2, x3, x4, x5, x6, x7, x8, x9, x10, x11, x12, x13, .val (.lst (L.map D.str)), .val (.bl b), .val (.str (hd b)), x17], M⟩ =
      .ok (.mls ((frK b L).map fun k => .str (nm b k)), ⟨[x0, x1, x2, x3, x4, x5, x6, x7, x8, x9, x10, x11, x12, x13, .val (.lst (L.map D.str)), .val (.bl b), .val (.str (hd b)), x17], M⟩) := by
  have rg : rng2D (.int 0) (.int 20) = some (rngD ((0 : Nat) : Int) 1 20) := rng_ok (n := 20) (by decide)
  have hi : evI C dat (.rng1 (.int 20)) ⟨[x0, x1, x2, x3, x4, x5, x6, x7, x8, x9, x10, x11, x12, x13, .val (.lst (L.map D.str)), .val (.bl b), .val (.str (hd b)), x17], M⟩ = .ok (rngD ((0 : Nat) : Int) 1 20, ⟨[x0, x1, x2, x3, x4, x5, x6, x7, x8, x9, x10, x11, x12, x13, .val (.lst (L.map D.str)), .val (.bl b), .val (.str (hd b)), x17], M⟩) := by
    simp only [rel_bl, rel_int, rel_str, rel_non, rel_tup, rel_tpx, rel_lst, rel_dic, rel_mls, evSs, evS, evE, evEs, evB, evI, asgT, asgTs, rdV_k, rd_val, rd_mls, b2_k, bd_k, op_k, op_n, fz_val, fz_mls, bl_k, dr_int, dr_bl, dr_non, dr_str, dr_tup, dr_lst, dr_dic, dr_tpx, tru_bl, tru_lst, tru_tup, cm_lt, cm_le, cm_gt, cm_ge, cm_eqi, cm_eqs, cm_nei, cm_nes, bn_add, bn_addt, bn_addl, bn_sub, bn_mulR, bn_mulL, bn_div, bn_mod, bi_lent, bi_lenl, bi_tupt, bi_tupl, bi_listt, bi_listl, bi_int, bi_sum, bi_all, ix_t, ix_l, ix_s, pt_no, pt_i, no_none, no_int, no_v, no_bin, no_neg, sl_t, sl_l, List.map_cons, List.map_nil, List.length_cons, List.length_nil, List.replicate, List.cons_append, List.nil_append, List.getElem?_cons_zero, List.getElem?_cons_succ, List.set_cons_zero, List.set_cons_succ, Option.bind_some, Option.map_some, Option.bind_none, Option.map_none, Nat.reduceAdd, Nat.reduceSub, Nat.reduceLT, Nat.reduceLeDiff, ↓reduceIte, reduceCtorEq, Bool.false_eq_true, Bool.true_and, Bool.and_true, Bool.false_and, Bool.and_false, Bool.not_true, Bool.not_false, if_true, if_false, rg]
  have no : noOwn [x0, x1, x2, x3, x4, x5, x6, x7, x8, x9, x10, x11, x12, x13, .val (.lst (L.map D.str)), .val (.bl b), .val (.str (hd b)), x17] [17] = true := by
    cases x17 with
    | mls l => exact absurd rfl (hx l)
    | un => rfl
    | val d => rfl
  have ts := due_turns C b L x0 x1 x2 x3 x4 x5 x6 x7 x8 x9 x10 x11 x12 x13 M
  have := ev_lcO (C := C) (D' := dat) (vs := [17]) (tg := .nm 17) (it := .rng1 (.int 20)) (c := .of (.cmp .notin (.bin .add (.v 16) (.sti (.v 17))) (.v 14))) (el := b30_0) hi no (by rw [rng_len]; exact le_seq (by omega)) (σ := [x0, x1, x2, x3, x4, x5, x6, x7, x8, x9, x10, x11, x12, x13, .val (.lst (L.map D.str)), .val (.bl b), .val (.str (hd b)), .un]) rfl rfl rfl rfl (ts 20 0 (by omega))
  unfold b30_1 frK
  rw [List.range_eq_range']
  exact this
theorem rng20 : rngD ((0 : Nat) : Int) 1 20 = .int ((0 : Nat) : Int) :: rngD ((1 : Nat) : Int) 1 19 := rng_s 0 19
theorem frK_first (b : Bool) (L : List Str) : frK b L = (if (!decide (nm b 0 ∈ L)) = true then [0] else []) ++ (List.range' 1 19).filter fun k => !decide (nm b k ∈ L) := by
  unfold frK
  have : List.range 20 = 0 :: List.range' 1 19 := rfl
  rw [this, List.filter_cons]
  cases decide (nm b 0 ∈ L) <;> rfl
/-- at first the list is still owned -/
theorem due_ev0 (C : Calls) (b : Bool) (L : List Str) (x0 x1 x2 x3 x4 x5 x6 x7 x8 x9 x10 x11 x12 x13 x17 : Rv) (hx : ∀ l, x17 ≠ .mls l) (M : Mem) :
    evE C dat b30_1 ⟨[x0, x1, x2, x3, x4, x5, x6, x7, x8, x9, x10, x11, x12, x13, .mls (L.map D.str), .val (.bl b), .val (.str (hd b)), x17], M⟩ =
      .ok (.mls ((frK b L).map fun k => .str (nm b k)), ⟨[x0, x1, x2, x3, x4, x5, x6, x7, x8, x9, x10, x11, x12, x13, .val (.lst (L.map D.str)), .val (.bl b), .val (.str (hd b)), x17], M⟩) := by
  have rg : rng2D (.int 0) (.int 20) = some (rngD ((0 : Nat) : Int) 1 20) := rng_ok (n := 20) (by decide)
  rw [rng20] at rg
  have hi : evI C dat (.rng1 (.int 20)) ⟨[x0, x1, x2, x3, x4, x5, x6, x7, x8, x9, x10, x11, x12, x13, .mls (L.map D.str), .val (.bl b), .val (.str (hd b)), x17], M⟩ = .ok (.int ((0 : Nat) : Int) :: rngD ((1 : Nat) : Int) 1 19, ⟨[x0, x1, x2, x3, x4, x5, x6, x7, x8, x9, x10, x11, x12, x13, .mls (L.map D.str), .val (.bl b), .val (.str (hd b)), x17], M⟩) := by
    simp only [rel_bl, rel_int, rel_str, rel_non, rel_tup, rel_tpx, rel_lst, rel_dic, rel_mls, evSs, evS, evE, evEs, evB, evI, asgT, asgTs, rdV_k, rd_val, rd_mls, b2_k, bd_k, op_k, op_n, fz_val, fz_mls, bl_k, dr_int, dr_bl, dr_non, dr_str, dr_tup, dr_lst, dr_dic, dr_tpx, tru_bl, tru_lst, tru_tup, cm_lt, cm_le, cm_gt, cm_ge, cm_eqi, cm_eqs, cm_nei, cm_nes, bn_add, bn_addt, bn_addl, bn_sub, bn_mulR, bn_mulL, bn_div, bn_mod, bi_lent, bi_lenl, bi_tupt, bi_tupl, bi_listt, bi_listl, bi_int, bi_sum, bi_all, ix_t, ix_l, ix_s, pt_no, pt_i, no_none, no_int, no_v, no_bin, no_neg, sl_t, sl_l, List.map_cons, List.map_nil, List.length_cons, List.length_nil, List.replicate, List.cons_append, List.nil_append, List.getElem?_cons_zero, List.getElem?_cons_succ, List.set_cons_zero, List.set_cons_succ, Option.bind_some, Option.map_some, Option.bind_none, Option.map_none, Nat.reduceAdd, Nat.reduceSub, Nat.reduceLT, Nat.reduceLeDiff, ↓reduceIte, reduceCtorEq, Bool.false_eq_true, Bool.true_and, Bool.and_true, Bool.false_and, Bool.and_false, Bool.not_true, Bool.not_false, if_true, if_false, rg]
  have no : noOwn [x0, x1, x2, x3, x4, x5, x6, x7, x8, x9, x10, x11, x12, x13, .mls (L.map D.str), .val (.bl b), .val (.str (hd b)), x17] [17] = true := by
    cases x17 with
    | mls l => exact absurd rfl (hx l)
    | un => rfl
    | val d => rfl
  have l20 : (D.int ((0 : Nat) : Int) :: rngD ((1 : Nat) : Int) 1 19).length ≤ seqLine := by rw [List.length_cons, rng_len]; exact le_seq (by omega)
  have ts := due_turns C b L x0 x1 x2 x3 x4 x5 x6 x7 x8 x9 x10 x11 x12 x13 M 19 1 (by omega)
  have h3 := sti_k (k := 0) (by omega)
  have h4 : binD .add (.str (hd b)) (.str (Str.ofString (toString ((0 : Nat) : Int)))) = some (.val (.str (nm b 0))) := nm_add (by omega)
  have e1 : evB C dat (.of (.cmp .notin (.bin .add (.v 16) (.sti (.v 17))) (.v 14))) ⟨[x0, x1, x2, x3, x4, x5, x6, x7, x8, x9, x10, x11, x12, x13, .mls (L.map D.str), .val (.bl b), .val (.str (hd b)), .val (.int ((0 : Nat) : Int))], M⟩ =
      .ok (!decide (nm b 0 ∈ L), ⟨[x0, x1, x2, x3, x4, x5, x6, x7, x8, x9, x10, x11, x12, x13, .val (.lst (L.map D.str)), .val (.bl b), .val (.str (hd b)), .val (.int ((0 : Nat) : Int))], M⟩) := by
    simp only [rel_bl, rel_int, rel_str, rel_non, rel_tup, rel_tpx, rel_lst, rel_dic, rel_mls, evSs, evS, evE, evEs, evB, evI, asgT, asgTs, rdV_k, rd_val, rd_mls, b2_k, bd_k, op_k, op_n, fz_val, fz_mls, bl_k, dr_int, dr_bl, dr_non, dr_str, dr_tup, dr_lst, dr_dic, dr_tpx, tru_bl, tru_lst, tru_tup, cm_lt, cm_le, cm_gt, cm_ge, cm_eqi, cm_eqs, cm_nei, cm_nes, bn_add, bn_addt, bn_addl, bn_sub, bn_mulR, bn_mulL, bn_div, bn_mod, bi_lent, bi_lenl, bi_tupt, bi_tupl, bi_listt, bi_listl, bi_int, bi_sum, bi_all, ix_t, ix_l, ix_s, pt_no, pt_i, no_none, no_int, no_v, no_bin, no_neg, sl_t, sl_l, List.map_cons, List.map_nil, List.length_cons, List.length_nil, List.replicate, List.cons_append, List.nil_append, List.getElem?_cons_zero, List.getElem?_cons_succ, List.set_cons_zero, List.set_cons_succ, Option.bind_some, Option.map_some, Option.bind_none, Option.map_none, Nat.reduceAdd, Nat.reduceSub, Nat.reduceLT, Nat.reduceLeDiff, ↓reduceIte, reduceCtorEq, Bool.false_eq_true, Bool.true_and, Bool.and_true, Bool.false_and, Bool.and_false, Bool.not_true, Bool.not_false, if_true, if_false, h3, h4, cm_nins]
  have e2 : evE C dat b30_0 ⟨[x0, x1, x2, x3, x4, x5, x6, x7, x8, x9, x10, x11, x12, x13, .val (.lst (L.map D.str)), .val (.bl b), .val (.str (hd b)), .val (.int ((0 : Nat) : Int))], M⟩ =
      .ok (.val (.str (nm b 0)), ⟨[x0, x1, x2, x3, x4, x5, x6, x7, x8, x9, x10, x11, x12, x13, .val (.lst (L.map D.str)), .val (.bl b), .val (.str (hd b)), .val (.int ((0 : Nat) : Int))], M⟩) := by
    unfold b30_0
    simp only [rel_bl, rel_int, rel_str, rel_non, rel_tup, rel_tpx, rel_lst, rel_dic, rel_mls, evSs, evS, evE, evEs, evB, evI, asgT, asgTs, rdV_k, rd_val, rd_mls, b2_k, bd_k, op_k, op_n, fz_val, fz_mls, bl_k, dr_int, dr_bl, dr_non, dr_str, dr_tup, dr_lst, dr_dic, dr_tpx, tru_bl, tru_lst, tru_tup, cm_lt, cm_le, cm_gt, cm_ge, cm_eqi, cm_eqs, cm_nei, cm_nes, bn_add, bn_addt, bn_addl, bn_sub, bn_mulR, bn_mulL, bn_div, bn_mod, bi_lent, bi_lenl, bi_tupt, bi_tupl, bi_listt, bi_listl, bi_int, bi_sum, bi_all, ix_t, ix_l, ix_s, pt_no, pt_i, no_none, no_int, no_v, no_bin, no_neg, sl_t, sl_l, List.map_cons, List.map_nil, List.length_cons, List.length_nil, List.replicate, List.cons_append, List.nil_append, List.getElem?_cons_zero, List.getElem?_cons_succ, List.set_cons_zero, List.set_cons_succ, Option.bind_some, Option.map_some, Option.bind_none, Option.map_none, Nat.reduceAdd, Nat.reduceSub, Nat.reduceLT, Nat.reduceLeDiff, ↓reduceIte, reduceCtorEq, Bool.false_eq_true, Bool.true_and, Bool.and_true, Bool.false_and, Bool.and_false, Bool.not_true, Bool.not_false, if_true, if_false, h3, h4]
  have fk := frK_first b L
  cases hb : decide (nm b 0 ∈ L) with
  | true =>
    rw [hb] at e1 fk
    have r := ev_lcF (D' := dat) (o := none) hi no l20 rfl e1 (σc := _) (Mb := _) (by rw [Bool.not_true, if_neg Bool.false_ne_true]; exact ⟨rfl, rfl, rfl⟩) rfl rfl rfl ts
    rw [fk]
    exact r
  | false =>
    rw [hb] at e1 fk
    have r := ev_lcF (D' := dat) (o := some (.str (nm b 0))) hi no l20 rfl e1 (σc := _) (Mb := _) (by rw [Bool.not_false, if_pos rfl]; exact ⟨_, e2, rfl⟩) rfl rfl rfl ts
    rw [fk]
    exact r
/-- one turn of the fresh names' loop -/
theorem turn_fresh (n : Nat) (b : Bool) {L : List Str} (hl : L.length ≤ 14) (x14 : Rv) (h14 : x14 = .val (.lst (L.map D.str)) ∨ x14 = .mls (L.map D.str)) (x0 x1 x2 x3 x4 x5 x6 x7 x8 x9 x10 x11 x12 x13 x15 x16 x17 : Rv) (hx : ∀ l, x17 ≠ .mls l) {M : Mem} (h : Bx [] M) :
    ∃ y11, (opt (asgT (.tp (.cons (.nm 15) (.cons (.nm 16) .nil))) (.val (.tup [.bl b, .str (hd b)])) [x0, x1, x2, x3, x4, x5, x6, x7, x8, x9, x10, x11, x12, x13, x14, x15, x16, x17])).bind (fun σ => evSs (calls fds dat (n + 4)) dat b30_2 ⟨σ, M⟩) =
      .ok (.nx, ⟨[x0, x1, x2, x3, x4, x5, x6, x7, x8, x9, x10, y11, x12, x13, .val (.lst (L.map D.str)), .val (.bl b), .val (.str (hd b)), x17], M⟩) := by
  obtain ⟨k0, k1, k2, r, e⟩ := frK_three b (L := L) (by omega)
  obtain ⟨f1, f2, f3⟩ := first_free e
  have d : evE (calls fds dat (n + 4)) dat b30_1 ⟨[x0, x1, x2, x3, x4, x5, x6, x7, x8, x9, x10, x11, x12, x13, x14, .val (.bl b), .val (.str (hd b)), x17], M⟩ =
      .ok (.mls ((frK b L).map fun k => .str (nm b k)), ⟨[x0, x1, x2, x3, x4, x5, x6, x7, x8, x9, x10, x11, x12, x13, .val (.lst (L.map D.str)), .val (.bl b), .val (.str (hd b)), x17], M⟩) := by
    rcases h14 with rfl | rfl
    · exact due_ev (calls fds dat (n + 4)) b L x0 x1 x2 x3 x4 x5 x6 x7 x8 x9 x10 x11 x12 x13 x17 hx M
    · exact due_ev0 (calls fds dat (n + 4)) b L x0 x1 x2 x3 x4 x5 x6 x7 x8 x9 x10 x11 x12 x13 x17 hx M
  rw [e] at d
  have fr := fresh_d (n + 3) (nms_l L) b k0 f1 f2 f3 M
  have fn := fresh_names_d (n + 2) b hl e (box_all h)
  have s1 := smT (C := n + 2) (d := .str (nm b k0)) trivial M
  have s3 := smT (C := n + 2) (d := .lst (three b k0 k1 k2)) ⟨by unfold three; simp, fun x hx => by
    unfold three at hx
    simp only [List.mem_cons, List.not_mem_nil, or_false] at hx
    rcases hx with rfl | rfl | rfl <;> trivial⟩ M
  have c3 : ∀ l : List D, cutD (.str (nm b k0) :: .str (nm b k1) :: .str (nm b k2) :: l) none (some 3) = three b k0 k1 k2 := fun l => cut_take _ 3
  have s3' : calls fds dat (n + 4) 18 [.lst (three b k0 k1 k2), .lst (three b k0 k1 k2)] M = .ok (.val (.bl true), M) := s3
  refine ⟨.val (.lst ((k0 :: k1 :: k2 :: r).map fun k => .str (nm b k))), ?_⟩
  show evSs _ _ b30_2 ⟨[x0, x1, x2, x3, x4, x5, x6, x7, x8, x9, x10, x11, x12, x13, x14, .val (.bl b), .val (.str (hd b)), x17], M⟩ = _
  unfold b30_2
  refine (seq_nx (s' := ⟨[x0, x1, x2, x3, x4, x5, x6, x7, x8, x9, x10, .mls ((k0 :: k1 :: k2 :: r).map fun k => .str (nm b k)), x12, x13, .val (.lst (L.map D.str)), .val (.bl b), .val (.str (hd b)), x17], M⟩) ?_).trans ?_
  · simp only [evS, d, b2_k]
    simp only [rel_bl, rel_int, rel_str, rel_non, rel_tup, rel_tpx, rel_lst, rel_dic, rel_mls, evSs, evS, evE, evEs, evB, evI, asgT, asgTs, rdV_k, rd_val, rd_mls, b2_k, bd_k, op_k, op_n, fz_val, fz_mls, bl_k, dr_int, dr_bl, dr_non, dr_str, dr_tup, dr_lst, dr_dic, dr_tpx, tru_bl, tru_lst, tru_tup, cm_lt, cm_le, cm_gt, cm_ge, cm_eqi, cm_eqs, cm_nei, cm_nes, bn_add, bn_addt, bn_addl, bn_sub, bn_mulR, bn_mulL, bn_div, bn_mod, bi_lent, bi_lenl, bi_tupt, bi_tupl, bi_listt, bi_listl, bi_int, bi_sum, bi_all, ix_t, ix_l, ix_s, pt_no, pt_i, no_none, no_int, no_v, no_bin, no_neg, sl_t, sl_l, List.map_cons, List.map_nil, List.length_cons, List.length_nil, List.replicate, List.cons_append, List.nil_append, List.getElem?_cons_zero, List.getElem?_cons_succ, List.set_cons_zero, List.set_cons_succ, Option.bind_some, Option.map_some, Option.bind_none, Option.map_none, Nat.reduceAdd, Nat.reduceSub, Nat.reduceLT, Nat.reduceLeDiff, ↓reduceIte, reduceCtorEq, Bool.false_eq_true, Bool.true_and, Bool.and_true, Bool.false_and, Bool.and_false, Bool.not_true, Bool.not_false, if_true, if_false]
  refine (seq_nx (s' := ⟨[x0, x1, x2, x3, x4, x5, x6, x7, x8, x9, x10, .val (.lst ((k0 :: k1 :: k2 :: r).map fun k => .str (nm b k))), x12, x13, .val (.lst (L.map D.str)), .val (.bl b), .val (.str (hd b)), x17], M⟩) ?_).trans ?_
  · simp only [rel_bl, rel_int, rel_str, rel_non, rel_tup, rel_tpx, rel_lst, rel_dic, rel_mls, evSs, evS, evE, evEs, evB, evI, asgT, asgTs, rdV_k, rd_val, rd_mls, b2_k, bd_k, op_k, op_n, fz_val, fz_mls, bl_k, dr_int, dr_bl, dr_non, dr_str, dr_tup, dr_lst, dr_dic, dr_tpx, tru_bl, tru_lst, tru_tup, cm_lt, cm_le, cm_gt, cm_ge, cm_eqi, cm_eqs, cm_nei, cm_nes, bn_add, bn_addt, bn_addl, bn_sub, bn_mulR, bn_mulL, bn_div, bn_mod, bi_lent, bi_lenl, bi_tupt, bi_tupl, bi_listt, bi_listl, bi_int, bi_sum, bi_all, ix_t, ix_l, ix_s, pt_no, pt_i, no_none, no_int, no_v, no_bin, no_neg, sl_t, sl_l, List.map_cons, List.map_nil, List.length_cons, List.length_nil, List.replicate, List.cons_append, List.nil_append, List.getElem?_cons_zero, List.getElem?_cons_succ, List.set_cons_zero, List.set_cons_succ, Option.bind_some, Option.map_some, Option.bind_none, Option.map_none, Nat.reduceAdd, Nat.reduceSub, Nat.reduceLT, Nat.reduceLeDiff, ↓reduceIte, reduceCtorEq, Bool.false_eq_true, Bool.true_and, Bool.and_true, Bool.false_and, Bool.and_false, Bool.not_true, Bool.not_false, if_true, if_false, fr, fn, a0, c3, s1, s3']
  simp only [evSs]
end K00


set_option Elab.async false
set_option linter.all false
set_option maxRecDepth 100000
set_option maxHeartbeats 4000000
set_option pp.maxSteps 400
namespace K00
open PySem Ev Ul
/-- what is judged -/
def Jd (d : D) : Prop := Vd d ∧ Vs d
theorem pv_vs {m e : Nat} {d : D} (h : PV m e d) : Vs d := by
  intro l hl x hx
  cases e with
  | zero => cases d <;> first | (cases hl; done) | exact h.elim
  | succ e => cases d <;> first | (cases hl; done) | (cases hl; exact pv_vd (h.2 x hx))
theorem jd_pv {m e : Nat} {d : D} (h : PV m e d) : Jd d := ⟨pv_vd h, pv_vs h⟩
theorem jd_term {d : D} (h : IsTerm d) : Jd d := jd_pv (PI.pv (Nat.le_refl _) 1 1 d (Nat.le_refl _) (term_pi h))
def vals0 : List D := [.str "", .str "@", .str "_", .str "@_", .str "@_x", .str "_@x", .str "@@x", .str "__x", .str "x_", .str "X", .str "1x", .str "abcdefg", .str "@abcdefg", .str "@_abcdef", .str "a1", .str "x ", .str "aB", .str "a-", .str "@aB", .str "a b", .str "x@", .str "a_b", .non, .tup [], .int 0,
  .int (-1), .int 5, .bl true, .bl false, .tup [.str "n", .int 0], .tup [.str "n", .int 1], .tup [.str "@n", .int 1], .tup [.str "n", .bl true], .tup [.str "n", .str "m"], .tup [.int 1, .str "n"], .tup [.str "n", .int 1, .int 1], .tup [.tup [], .int 1], .tup [.str "_n", .int (-2)]]
/-- may it be judged, by looking -/
def jdB : D → Bool
  | .non => true
  | .bl _ => true
  | .int _ => true
  | .str x => decide (x.length ≤ 100)
  | .tup l => l.all fun x => match x with
    | .non => true
    | .bl _ => true
    | .int _ => true
    | .str x => decide (x.length ≤ 100)
    | .tup _ => true
    | _ => false
  | _ => false
theorem le100 {x : Str} (h : decide (x.length ≤ 100) = true) : Vd (.str x) := by
  show x.length ≤ 100
  exact of_decide_eq_true h
theorem jd_of {d : D} (h : jdB d = true) : Jd d := by
  refine ⟨?_, fun l hl x hx => ?_⟩
  · cases d <;> first | trivial | (cases h; done) | exact le100 h
  · cases d <;> first | (cases hl; done) | (cases h; done) | skip
    cases hl
    have := List.all_eq_true.mp h x hx
    cases x <;> first | trivial | (cases this; done) | exact le100 this
theorem vals0_ok : ∀ d ∈ vals0, Jd d := by
  have : vals0.all jdB = true := by decide +kernel
  exact fun d hd => jd_of (List.all_eq_true.mp this d hd)
/-- one turn of the values' loop -/
theorem turn_val (n : Nat) (vs : List D) (hv : ∀ d ∈ vs, Jd d) (hl : vs.length ≤ 800) (k : Int) (x0 x3 x4 x5 x6 x7 x8 x9 x10 x11 x12 x13 x14 x15 x16 x17 : Rv) {M : Mem} (h : Bx [] M) :
    ∃ vs' M', Bx [] M' ∧ (∀ d ∈ vs', Jd d) ∧ vs'.length = vs.length + 3 ∧ (opt (asgT (.nm 3) (.val (.int k)) [x0, .val (.ref 1), .mls vs, x3, x4, x5, x6, x7, x8, x9, x10, x11, x12, x13, x14, x15, x16, x17])).bind (fun σ => evSs (calls fds dat (n + 6)) dat b30_16 ⟨σ, M⟩) =
      .ok (.nx, ⟨[x0, .val (.ref 1), .mls vs', .val (.int k), x4, x5, x6, x7, x8, x9, x10, x11, x12, x13, x14, x15, x16, x17], M'⟩) := by
  obtain ⟨w, M1, w0, w1, k1, e1⟩ := dr (n + 4) 2 (by decide) (by decide) h
  obtain ⟨x, M2, hx, k2, e2⟩ := name_dr (n + 2) (decide (w = 0)) k1
  obtain ⟨t, M3, ht, k3, e3⟩ := term_dr (n + 1) k2
  obtain ⟨u, M4, hu, k4, e4⟩ := term_dr (n + 1) k3
  obtain ⟨y, M5, hy, k5, e5⟩ := spoilt_dr (n + 2) hu k4
  have sz : vs.length + 3 ≤ seqLine := le_seq (by omega)
  refine ⟨vs ++ [.str x, t, y], M5, k5, fun d hd => ?_, by simp, ?_⟩
  · rcases List.mem_append.mp hd with hd | hd
    · exact hv d hd
    · simp only [List.mem_cons, List.not_mem_nil, or_false] at hd
      rcases hd with rfl | rfl | rfl
      · exact ⟨by have := hx.1; show x.length ≤ 100; omega, fun l hl => by cases hl⟩
      · exact jd_term ht
      · exact jd_pv hy
  · show evSs _ _ b30_16 ⟨[x0, .val (.ref 1), .mls vs, .val (.int k), x4, x5, x6, x7, x8, x9, x10, x11, x12, x13, x14, x15, x16, x17], M⟩ = _
    unfold b30_16
    simp only [rel_bl, rel_int, rel_str, rel_non, rel_tup, rel_tpx, rel_lst, rel_dic, rel_mls, evSs, evS, evE, evEs, evB, evI, asgT, asgTs, rdV_k, rd_val, rd_mls, b2_k, bd_k, op_k, op_n, fz_val, fz_mls, bl_k, dr_int, dr_bl, dr_non, dr_str, dr_tup, dr_lst, dr_dic, dr_tpx, tru_bl, tru_lst, tru_tup, cm_lt, cm_le, cm_gt, cm_ge, cm_eqi, cm_eqs, cm_nei, cm_nes, bn_add, bn_addt, bn_addl, bn_sub, bn_mulR, bn_mulL, bn_div, bn_mod, bi_lent, bi_lenl, bi_tupt, bi_tupl, bi_listt, bi_listl, bi_int, bi_sum, bi_all, ix_t, ix_l, ix_s, pt_no, pt_i, no_none, no_int, no_v, no_bin, no_neg, sl_t, sl_l, List.map_cons, List.map_nil, List.length_cons, List.length_nil, List.replicate, List.cons_append, List.nil_append, List.getElem?_cons_zero, List.getElem?_cons_succ, List.set_cons_zero, List.set_cons_succ, Option.bind_some, Option.map_some, Option.bind_none, Option.map_none, Nat.reduceAdd, Nat.reduceSub, Nat.reduceLT, Nat.reduceLeDiff, ↓reduceIte, reduceCtorEq, Bool.false_eq_true, Bool.true_and, Bool.and_true, Bool.false_and, Bool.and_false, Bool.not_true, Bool.not_false, if_true, if_false, e1, e2, e3, e4, e5, q3, sz]
theorem loop_val (n : Nat) : ∀ (ks : List Int) (vs : List D) (hv : ∀ d ∈ vs, Jd d) (hl : vs.length + 3 * ks.length ≤ 800) (x0 x3 x4 x5 x6 x7 x8 x9 x10 x11 x12 x13 x14 x15 x16 x17 : Rv) (h3 : ∀ l, x3 ≠ .mls l) (M : Mem), Bx [] M →
    ∃ vs' y3 M', Bx [] M' ∧ (∀ d ∈ vs', Jd d) ∧ vs'.length = vs.length + 3 * ks.length ∧ (∀ l, y3 ≠ .mls l) ∧ forL (fun x s => (opt (asgT (.nm 3) (.val x) s.σ)).bind fun σ => evSs (calls fds dat (n + 6)) dat b30_16 { s with σ := σ }) (ks.map D.int) ⟨[x0, .val (.ref 1), .mls vs, x3, x4, x5, x6, x7, x8, x9, x10, x11, x12, x13, x14, x15, x16, x17], M⟩ =
      .ok (.nx, ⟨[x0, .val (.ref 1), .mls vs', y3, x4, x5, x6, x7, x8, x9, x10, x11, x12, x13, x14, x15, x16, x17], M'⟩) := by
  intro ks
  induction ks with
  | nil => intro vs hv hl x0 x3 x4 x5 x6 x7 x8 x9 x10 x11 x12 x13 x14 x15 x16 x17 h3 M h; exact ⟨vs, x3, M, h, hv, by simp, h3, rfl⟩
  | cons k ks ih =>
    intro vs hv hl x0 x3 x4 x5 x6 x7 x8 x9 x10 x11 x12 x13 x14 x15 x16 x17 h3 M h
    rw [List.length_cons] at hl
    obtain ⟨vs1, M1, k1, hv1, l1, e1⟩ := turn_val n vs hv (by omega) k x0 x3 x4 x5 x6 x7 x8 x9 x10 x11 x12 x13 x14 x15 x16 x17 h
    obtain ⟨vs2, y3, M2, k2, hv2, l2, h32, e2⟩ := ih vs1 hv1 (by omega) x0 (.val (.int k)) x4 x5 x6 x7 x8 x9 x10 x11 x12 x13 x14 x15 x16 x17 (fun l z => by cases z) M1 k1
    refine ⟨vs2, y3, M2, k2, hv2, by rw [l2, l1, List.length_cons]; omega, h32, ?_⟩
    rw [List.map_cons, forL_nx e1]
    exact e2
/-- the terms' loop -/
theorem loop_term (n : Nat) : ∀ (ts : List D) (ht : ∀ d ∈ ts, IsTerm d) (x0 x2 x3 x4 x5 x6 x7 x8 x9 x10 x11 x12 x13 x14 x15 x16 x17 : Rv) (M : Mem), Bx [] M →
    ∃ y7 y8 y9 y10 y11 y12 y13 M', Bx [] M' ∧ forL (fun x s => (opt (asgT (.nm 7) (.val x) s.σ)).bind fun σ => evSs (calls fds dat (n + 6)) dat b30_6 { s with σ := σ }) ts ⟨[x0, .val (.ref 1), x2, x3, x4, x5, x6, x7, x8, x9, x10, x11, x12, x13, x14, x15, x16, x17], M⟩ =
      .ok (.nx, ⟨[x0, .val (.ref 1), x2, x3, x4, x5, x6, y7, y8, y9, y10, y11, y12, y13, x14, x15, x16, x17], M'⟩) := by
  intro ts
  induction ts with
  | nil => intro ht x0 x2 x3 x4 x5 x6 x7 x8 x9 x10 x11 x12 x13 x14 x15 x16 x17 M h; exact ⟨x7, x8, x9, x10, x11, x12, x13, M, h, rfl⟩
  | cons d ts ih =>
    intro ht x0 x2 x3 x4 x5 x6 x7 x8 x9 x10 x11 x12 x13 x14 x15 x16 x17 M h
    obtain ⟨y8, y9, y10, y11, y12, y13, M1, k1, e1⟩ := turn_term n (ht d List.mem_cons_self) x0 x2 x3 x4 x5 x6 x7 x8 x9 x10 x11 x12 x13 x14 x15 x16 x17 h
    obtain ⟨z7, z8, z9, z10, z11, z12, z13, M2, k2, e2⟩ := ih (fun x hx => ht x (List.mem_cons_of_mem _ hx)) x0 x2 x3 x4 x5 x6 (.val d) y8 y9 y10 y11 y12 y13 x14 x15 x16 x17 M1 k1
    refine ⟨z7, z8, z9, z10, z11, z12, z13, M2, k2, ?_⟩
    rw [forL_nx e1]
    exact e2
end K00


set_option Elab.async false
set_option linter.all false
set_option maxRecDepth 100000
set_option maxHeartbeats 4000000
set_option pp.maxSteps 600
namespace K00
open PySem Ev Ul
theorem it_l {l : List D} : itD (.lst l) = some l := rfl
theorem un_nm {l : List D} : Rv.un ≠ .mls l := fun z => by cases z
theorem wipe_no {σ : List Rv} {i : Nat} (h : ∀ l, σ.getD i .un ≠ .mls l) : noOwn σ [i] = true := by
  show ((match σ.getD i .un with | .mls _ => false | _ => true) && true) = true
  cases e : σ.getD i .un with
  | mls l => exact absurd e (h l)
  | un => rfl
  | val d => rfl
theorem rl (b : Bool) (h : b = true) : (if (!b) = true then (1 : Nat) else 0) = 0 := by subst h; rfl
section
variable (n : Nat) (ks : List Int)
abbrev CC (n : Nat) : Calls := calls fds dat (n + 6)
/-- all are judged rightly -/
theorem all_judged {vs : List D} (hv : ∀ d ∈ vs, Jd d) (hl : vs.length ≤ 900) (y3 : Rv) (M : Mem) :
    evE (calls fds dat (n + 6)) dat b30_15 ⟨[.val (.lst (ks.map D.int)), .val (.ref 1), .mls vs, y3, .un, .un, .un, .un, .un, .un, .un, .un, .un, .un, .un, .un, .un, .un], M⟩ =
      .ok (.mls (vs.map fun _ => .bl true), ⟨[.val (.lst (ks.map D.int)), .val (.ref 1), .val (.lst vs), y3, .un, .un, .un, .un, .un, .un, .un, .un, .un, .un, .un, .un, .un, .un], M⟩) := by
  unfold b30_15
  refine ev_lcT (σ := [.val (.lst (ks.map D.int)), .val (.ref 1), .val (.lst vs), y3, .un, .un, .un, .un, .un, .un, .un, .un, .un, .un, .un, .un, .un, .un]) (l := vs) ?_ rfl (le_seq hl) rfl rfl (turns_yes fun d hd => ?_)
  · simp only [rel_bl, rel_int, rel_str, rel_non, rel_tup, rel_tpx, rel_lst, rel_dic, rel_mls, evSs, evS, evE, evEs, evB, evI, asgT, asgTs, rdV_k, rd_val, rd_mls, b2_k, bd_k, op_k, op_n, fz_val, fz_mls, bl_k, dr_int, dr_bl, dr_non, dr_str, dr_tup, dr_lst, dr_dic, dr_tpx, tru_bl, tru_lst, tru_tup, cm_lt, cm_le, cm_gt, cm_ge, cm_eqi, cm_eqs, cm_nei, cm_nes, bn_add, bn_addt, bn_addl, bn_sub, bn_mulR, bn_mulL, bn_div, bn_mod, bi_lent, bi_lenl, bi_tupt, bi_tupl, bi_listt, bi_listl, bi_int, bi_sum, bi_all, ix_t, ix_l, ix_s, pt_no, pt_i, no_none, no_int, no_v, no_bin, no_neg, sl_t, sl_l, List.map_cons, List.map_nil, List.length_cons, List.length_nil, List.replicate, List.cons_append, List.nil_append, List.getElem?_cons_zero, List.getElem?_cons_succ, List.set_cons_zero, List.set_cons_succ, Option.bind_some, Option.map_some, Option.bind_none, Option.map_none, Nat.reduceAdd, Nat.reduceSub, Nat.reduceLT, Nat.reduceLeDiff, ↓reduceIte, reduceCtorEq, Bool.false_eq_true, Bool.true_and, Bool.and_true, Bool.false_and, Bool.and_false, Bool.not_true, Bool.not_false, if_true, if_false, it_l]
  · have j := judged n d (hv d hd).1 (hv d hd).2 M
    refine ⟨[.val (.lst (ks.map D.int)), .val (.ref 1), .val (.lst vs), y3, .val d, .un, .un, .un, .un, .un, .un, .un, .un, .un, .un, .un, .un, .un], [.val (.lst (ks.map D.int)), .val (.ref 1), .val (.lst vs), y3, .val d, .un, .un, .un, .un, .un, .un, .un, .un, .un, .un, .un, .un, .un], .val (.bl true), rfl, ?_, rfl, rfl⟩
    unfold b30_14
    simp only [rel_bl, rel_int, rel_str, rel_non, rel_tup, rel_tpx, rel_lst, rel_dic, rel_mls, evSs, evS, evE, evEs, evB, evI, asgT, asgTs, rdV_k, rd_val, rd_mls, b2_k, bd_k, op_k, op_n, fz_val, fz_mls, bl_k, dr_int, dr_bl, dr_non, dr_str, dr_tup, dr_lst, dr_dic, dr_tpx, tru_bl, tru_lst, tru_tup, cm_lt, cm_le, cm_gt, cm_ge, cm_eqi, cm_eqs, cm_nei, cm_nes, bn_add, bn_addt, bn_addl, bn_sub, bn_mulR, bn_mulL, bn_div, bn_mod, bi_lent, bi_lenl, bi_tupt, bi_tupl, bi_listt, bi_listl, bi_int, bi_sum, bi_all, ix_t, ix_l, ix_s, pt_no, pt_i, no_none, no_int, no_v, no_bin, no_neg, sl_t, sl_l, List.map_cons, List.map_nil, List.length_cons, List.length_nil, List.replicate, List.cons_append, List.nil_append, List.getElem?_cons_zero, List.getElem?_cons_succ, List.set_cons_zero, List.set_cons_succ, Option.bind_some, Option.map_some, Option.bind_none, Option.map_none, Nat.reduceAdd, Nat.reduceSub, Nat.reduceLT, Nat.reduceLeDiff, ↓reduceIte, reduceCtorEq, Bool.false_eq_true, Bool.true_and, Bool.and_true, Bool.false_and, Bool.and_false, Bool.not_true, Bool.not_false, if_true, if_false, j]
/-- the terms drawn -/
theorem terms_dr {vs : List D} (y3 : Rv) (h3 : ∀ l, y3 ≠ .mls l) {M : Mem} (h : Bx [] M) :
    ∃ ts M', (∀ d ∈ ts, IsTerm d) ∧ ts.length ≤ 8 ∧ Bx [] M' ∧ evE (calls fds dat (n + 6)) dat b30_13 ⟨[.val (.lst (ks.map D.int)), .val (.ref 1), .val (.lst vs), y3, .un, .un, .un, .un, .un, .un, .un, .un, .un, .un, .un, .un, .un, .un], M⟩ =
      .ok (.mls ts, ⟨[.val (.lst (ks.map D.int)), .val (.ref 1), .val (.lst vs), y3, .un, .un, .un, .un, .un, .un, .un, .un, .un, .un, .un, .un, .un, .un], M'⟩) := by
  have rg : rng2D (.int 0) (.int 8) = some (rngD ((0 : Nat) : Int) 1 8) := rng_ok (n := 8) (by decide)
  obtain ⟨ys, M', hr, h2, e⟩ := ev_lcDO (C := calls fds dat (n + 6)) (D' := dat) (vs := [3]) (tg := .nm 3) (it := .rng1 (.int 8)) (c := .yes) (el := b30_12) (s := ⟨[.val (.lst (ks.map D.int)), .val (.ref 1), .val (.lst vs), y3, .un, .un, .un, .un, .un, .un, .un, .un, .un, .un, .un, .un, .un, .un], M⟩)
    (σ0 := [.val (.lst (ks.map D.int)), .val (.ref 1), .val (.lst vs), y3, .un, .un, .un, .un, .un, .un, .un, .un, .un, .un, .un, .un, .un, .un]) (σ := [.val (.lst (ks.map D.int)), .val (.ref 1), .val (.lst vs), .un, .un, .un, .un, .un, .un, .un, .un, .un, .un, .un, .un, .un, .un, .un]) (l := rngD ((0 : Nat) : Int) 1 8) (Q := fun _ o => ∃ t, IsTerm t ∧ o = some t)
    (by simp only [rel_bl, rel_int, rel_str, rel_non, rel_tup, rel_tpx, rel_lst, rel_dic, rel_mls, evSs, evS, evE, evEs, evB, evI, asgT, asgTs, rdV_k, rd_val, rd_mls, b2_k, bd_k, op_k, op_n, fz_val, fz_mls, bl_k, dr_int, dr_bl, dr_non, dr_str, dr_tup, dr_lst, dr_dic, dr_tpx, tru_bl, tru_lst, tru_tup, cm_lt, cm_le, cm_gt, cm_ge, cm_eqi, cm_eqs, cm_nei, cm_nes, bn_add, bn_addt, bn_addl, bn_sub, bn_mulR, bn_mulL, bn_div, bn_mod, bi_lent, bi_lenl, bi_tupt, bi_tupl, bi_listt, bi_listl, bi_int, bi_sum, bi_all, ix_t, ix_l, ix_s, pt_no, pt_i, no_none, no_int, no_v, no_bin, no_neg, sl_t, sl_l, List.map_cons, List.map_nil, List.length_cons, List.length_nil, List.replicate, List.cons_append, List.nil_append, List.getElem?_cons_zero, List.getElem?_cons_succ, List.set_cons_zero, List.set_cons_succ, Option.bind_some, Option.map_some, Option.bind_none, Option.map_none, Nat.reduceAdd, Nat.reduceSub, Nat.reduceLT, Nat.reduceLeDiff, ↓reduceIte, reduceCtorEq, Bool.false_eq_true, Bool.true_and, Bool.and_true, Bool.false_and, Bool.and_false, Bool.not_true, Bool.not_false, if_true, if_false, rg]) h (wipe_no h3) (by rw [rng_len]; exact le_seq (by omega)) rfl rfl rfl rfl fun x hx M hM => by
      obtain ⟨t, M1, ht, k1, e1⟩ := term_dr (n + 1) hM
      refine ⟨some t, M1, ⟨t, ht, rfl⟩, k1, [.val (.lst (ks.map D.int)), .val (.ref 1), .val (.lst vs), .val x, .un, .un, .un, .un, .un, .un, .un, .un, .un, .un, .un, .un, .un, .un], [.val (.lst (ks.map D.int)), .val (.ref 1), .val (.lst vs), .val x, .un, .un, .un, .un, .un, .un, .un, .un, .un, .un, .un, .un, .un, .un], [.val (.lst (ks.map D.int)), .val (.ref 1), .val (.lst vs), .val x, .un, .un, .un, .un, .un, .un, .un, .un, .un, .un, .un, .un, .un, .un], M, true, rfl, rfl, ⟨.val t, ?_, rfl⟩, rfl⟩
      unfold b30_12
      simp only [rel_bl, rel_int, rel_str, rel_non, rel_tup, rel_tpx, rel_lst, rel_dic, rel_mls, evSs, evS, evE, evEs, evB, evI, asgT, asgTs, rdV_k, rd_val, rd_mls, b2_k, bd_k, op_k, op_n, fz_val, fz_mls, bl_k, dr_int, dr_bl, dr_non, dr_str, dr_tup, dr_lst, dr_dic, dr_tpx, tru_bl, tru_lst, tru_tup, cm_lt, cm_le, cm_gt, cm_ge, cm_eqi, cm_eqs, cm_nei, cm_nes, bn_add, bn_addt, bn_addl, bn_sub, bn_mulR, bn_mulL, bn_div, bn_mod, bi_lent, bi_lenl, bi_tupt, bi_tupl, bi_listt, bi_listl, bi_int, bi_sum, bi_all, ix_t, ix_l, ix_s, pt_no, pt_i, no_none, no_int, no_v, no_bin, no_neg, sl_t, sl_l, List.map_cons, List.map_nil, List.length_cons, List.length_nil, List.replicate, List.cons_append, List.nil_append, List.getElem?_cons_zero, List.getElem?_cons_succ, List.set_cons_zero, List.set_cons_succ, Option.bind_some, Option.map_some, Option.bind_none, Option.map_none, Nat.reduceAdd, Nat.reduceSub, Nat.reduceLT, Nat.reduceLeDiff, ↓reduceIte, reduceCtorEq, Bool.false_eq_true, Bool.true_and, Bool.and_true, Bool.false_and, Bool.and_false, Bool.not_true, Bool.not_false, if_true, if_false, e1]
  refine ⟨ys, M', fun d hd => ?_, ?_, h2, e⟩
  · exact RelT.all (fun x o ⟨t, ht, ho⟩ y hy => by rw [ho] at hy; cases hy; exact ht) hr d hd
  · have := RelT.len hr
    rwa [rng_len] at this
/-- the terms, put in order by the law -/
theorem sort_ev {vs ts : List D} (ht : ∀ d ∈ ts, IsTerm d) (hl : ts.length ≤ 8) (y3 : Rv) (M : Mem) :
    evE (calls fds dat (n + 6)) dat b30_11 ⟨[.val (.lst (ks.map D.int)), .val (.ref 1), .val (.lst vs), y3, .un, .val (.lst ts), .un, .un, .un, .un, .un, .un, .un, .un, .un, .un, .un, .un], M⟩ =
      .ok (.mls (inOrd ts), ⟨[.val (.lst (ks.map D.int)), .val (.ref 1), .val (.lst vs), y3, .un, .val (.lst ts), .un, .un, .un, .un, .un, .un, .un, .un, .un, .un, .un, .un], M⟩) := by
  have inn : evE (calls fds dat (n + 6)) dat b30_9 ⟨[.val (.lst (ks.map D.int)), .val (.ref 1), .val (.lst vs), y3, .un, .val (.lst ts), .un, .un, .un, .un, .un, .un, .un, .un, .un, .un, .un, .un], M⟩ =
      .ok (.mls (ts.map pr), ⟨[.val (.lst (ks.map D.int)), .val (.ref 1), .val (.lst vs), y3, .un, .val (.lst ts), .un, .un, .un, .un, .un, .un, .un, .un, .un, .un, .un, .un], M⟩) := by
    unfold b30_9
    refine ev_lcT (σ := [.val (.lst (ks.map D.int)), .val (.ref 1), .val (.lst vs), y3, .un, .val (.lst ts), .un, .un, .un, .un, .un, .un, .un, .un, .un, .un, .un, .un]) (l := ts) ?_ rfl (le_seq (by omega)) rfl rfl (turns_yes fun d hd => ?_)
    · simp only [rel_bl, rel_int, rel_str, rel_non, rel_tup, rel_tpx, rel_lst, rel_dic, rel_mls, evSs, evS, evE, evEs, evB, evI, asgT, asgTs, rdV_k, rd_val, rd_mls, b2_k, bd_k, op_k, op_n, fz_val, fz_mls, bl_k, dr_int, dr_bl, dr_non, dr_str, dr_tup, dr_lst, dr_dic, dr_tpx, tru_bl, tru_lst, tru_tup, cm_lt, cm_le, cm_gt, cm_ge, cm_eqi, cm_eqs, cm_nei, cm_nes, bn_add, bn_addt, bn_addl, bn_sub, bn_mulR, bn_mulL, bn_div, bn_mod, bi_lent, bi_lenl, bi_tupt, bi_tupl, bi_listt, bi_listl, bi_int, bi_sum, bi_all, ix_t, ix_l, ix_s, pt_no, pt_i, no_none, no_int, no_v, no_bin, no_neg, sl_t, sl_l, List.map_cons, List.map_nil, List.length_cons, List.length_nil, List.replicate, List.cons_append, List.nil_append, List.getElem?_cons_zero, List.getElem?_cons_succ, List.set_cons_zero, List.set_cons_succ, Option.bind_some, Option.map_some, Option.bind_none, Option.map_none, Nat.reduceAdd, Nat.reduceSub, Nat.reduceLT, Nat.reduceLeDiff, ↓reduceIte, reduceCtorEq, Bool.false_eq_true, Bool.true_and, Bool.and_true, Bool.false_and, Bool.and_false, Bool.not_true, Bool.not_false, if_true, if_false, it_l]
    · have k := ky_d (n + 5) (ht d hd) M
      refine ⟨[.val (.lst (ks.map D.int)), .val (.ref 1), .val (.lst vs), y3, .un, .val (.lst ts), .un, .val d, .un, .un, .un, .un, .un, .un, .un, .un, .un, .un], [.val (.lst (ks.map D.int)), .val (.ref 1), .val (.lst vs), y3, .un, .val (.lst ts), .un, .val d, .un, .un, .un, .un, .un, .un, .un, .un, .un, .un], .val (pr d), rfl, ?_, rfl, rfl⟩
      unfold b30_8 pr
      simp only [rel_bl, rel_int, rel_str, rel_non, rel_tup, rel_tpx, rel_lst, rel_dic, rel_mls, evSs, evS, evE, evEs, evB, evI, asgT, asgTs, rdV_k, rd_val, rd_mls, b2_k, bd_k, op_k, op_n, fz_val, fz_mls, bl_k, dr_int, dr_bl, dr_non, dr_str, dr_tup, dr_lst, dr_dic, dr_tpx, tru_bl, tru_lst, tru_tup, cm_lt, cm_le, cm_gt, cm_ge, cm_eqi, cm_eqs, cm_nei, cm_nes, bn_add, bn_addt, bn_addl, bn_sub, bn_mulR, bn_mulL, bn_div, bn_mod, bi_lent, bi_lenl, bi_tupt, bi_tupl, bi_listt, bi_listl, bi_int, bi_sum, bi_all, ix_t, ix_l, ix_s, pt_no, pt_i, no_none, no_int, no_v, no_bin, no_neg, sl_t, sl_l, List.map_cons, List.map_nil, List.length_cons, List.length_nil, List.replicate, List.cons_append, List.nil_append, List.getElem?_cons_zero, List.getElem?_cons_succ, List.set_cons_zero, List.set_cons_succ, Option.bind_some, Option.map_some, Option.bind_none, Option.map_none, Nat.reduceAdd, Nat.reduceSub, Nat.reduceLT, Nat.reduceLeDiff, ↓reduceIte, reduceCtorEq, Bool.false_eq_true, Bool.true_and, Bool.and_true, Bool.false_and, Bool.and_false, Bool.not_true, Bool.not_false, if_true, if_false, k, q2]
  have so := srt_of ht
  have hi : evI (calls fds dat (n + 6)) dat (.of (.srt b30_9)) ⟨[.val (.lst (ks.map D.int)), .val (.ref 1), .val (.lst vs), y3, .un, .val (.lst ts), .un, .un, .un, .un, .un, .un, .un, .un, .un, .un, .un, .un], M⟩ =
      .ok ((inOrd ts).map pr, ⟨[.val (.lst (ks.map D.int)), .val (.ref 1), .val (.lst vs), y3, .un, .val (.lst ts), .un, .un, .un, .un, .un, .un, .un, .un, .un, .un, .un, .un], M⟩) := by
    simp only [rel_bl, rel_int, rel_str, rel_non, rel_tup, rel_tpx, rel_lst, rel_dic, rel_mls, evSs, evS, evE, evEs, evB, evI, asgT, asgTs, rdV_k, rd_val, rd_mls, b2_k, bd_k, op_k, op_n, fz_val, fz_mls, bl_k, dr_int, dr_bl, dr_non, dr_str, dr_tup, dr_lst, dr_dic, dr_tpx, tru_bl, tru_lst, tru_tup, cm_lt, cm_le, cm_gt, cm_ge, cm_eqi, cm_eqs, cm_nei, cm_nes, bn_add, bn_addt, bn_addl, bn_sub, bn_mulR, bn_mulL, bn_div, bn_mod, bi_lent, bi_lenl, bi_tupt, bi_tupl, bi_listt, bi_listl, bi_int, bi_sum, bi_all, ix_t, ix_l, ix_s, pt_no, pt_i, no_none, no_int, no_v, no_bin, no_neg, sl_t, sl_l, List.map_cons, List.map_nil, List.length_cons, List.length_nil, List.replicate, List.cons_append, List.nil_append, List.getElem?_cons_zero, List.getElem?_cons_succ, List.set_cons_zero, List.set_cons_succ, Option.bind_some, Option.map_some, Option.bind_none, Option.map_none, Nat.reduceAdd, Nat.reduceSub, Nat.reduceLT, Nat.reduceLeDiff, ↓reduceIte, reduceCtorEq, Bool.false_eq_true, Bool.true_and, Bool.and_true, Bool.false_and, Bool.and_false, Bool.not_true, Bool.not_false, if_true, if_false, inn, so, it_l]
  unfold b30_11
  have e := ev_lcT (vs := [6, 7]) (tg := .tp (.cons (.nm 6) (.cons (.nm 7) .nil))) (c := .yes) (el := b30_10) (ys := ((inOrd ts).map pr).map fun d => match d with | .tup [_, x] => x | x => x) hi rfl (by rw [List.length_map, inOrd_len]; exact le_seq (by omega)) rfl rfl (turns_yes fun d hd => by
    obtain ⟨x, hx, rfl⟩ := List.mem_map.mp hd
    refine ⟨[.val (.lst (ks.map D.int)), .val (.ref 1), .val (.lst vs), y3, .un, .val (.lst ts), .val (ky x), .val x, .un, .un, .un, .un, .un, .un, .un, .un, .un, .un], [.val (.lst (ks.map D.int)), .val (.ref 1), .val (.lst vs), y3, .un, .val (.lst ts), .val (ky x), .val x, .un, .un, .un, .un, .un, .un, .un, .un, .un, .un], .val x, rfl, ?_, rfl, rfl⟩
    unfold b30_10
    simp only [rel_bl, rel_int, rel_str, rel_non, rel_tup, rel_tpx, rel_lst, rel_dic, rel_mls, evSs, evS, evE, evEs, evB, evI, asgT, asgTs, rdV_k, rd_val, rd_mls, b2_k, bd_k, op_k, op_n, fz_val, fz_mls, bl_k, dr_int, dr_bl, dr_non, dr_str, dr_tup, dr_lst, dr_dic, dr_tpx, tru_bl, tru_lst, tru_tup, cm_lt, cm_le, cm_gt, cm_ge, cm_eqi, cm_eqs, cm_nei, cm_nes, bn_add, bn_addt, bn_addl, bn_sub, bn_mulR, bn_mulL, bn_div, bn_mod, bi_lent, bi_lenl, bi_tupt, bi_tupl, bi_listt, bi_listl, bi_int, bi_sum, bi_all, ix_t, ix_l, ix_s, pt_no, pt_i, no_none, no_int, no_v, no_bin, no_neg, sl_t, sl_l, List.map_cons, List.map_nil, List.length_cons, List.length_nil, List.replicate, List.cons_append, List.nil_append, List.getElem?_cons_zero, List.getElem?_cons_succ, List.set_cons_zero, List.set_cons_succ, Option.bind_some, Option.map_some, Option.bind_none, Option.map_none, Nat.reduceAdd, Nat.reduceSub, Nat.reduceLT, Nat.reduceLeDiff, ↓reduceIte, reduceCtorEq, Bool.false_eq_true, Bool.true_and, Bool.and_true, Bool.false_and, Bool.and_false, Bool.not_true, Bool.not_false, if_true, if_false])
  rw [e]
  congr 3
  rw [List.map_map]
  exact List.map_id' (inOrd ts)
end
end K00


set_option Elab.async false
set_option linter.all false
set_option maxRecDepth 100000
set_option maxHeartbeats 4000000
set_option pp.maxSteps 600
namespace K00
open PySem Ev Ul
theorem errs_c (n : Nat) (M : Mem) : calls fds dat (n + 1) 29 [] M = .ok (.val (.bl true), M) := by
  show Ul.R fds dat _ _ _ _ = _
  rw [r_step (f := 29) (ar := 0) (ns := 0) (b := b29) rfl rfl]
  unfold b29
  simp only [rel_bl, rel_int, rel_str, rel_non, rel_tup, rel_tpx, rel_lst, rel_dic, rel_mls, evSs, evS, evE, evEs, evB, evI, asgT, asgTs, rdV_k, rd_val, rd_mls, b2_k, bd_k, op_k, op_n, fz_val, fz_mls, bl_k, dr_int, dr_bl, dr_non, dr_str, dr_tup, dr_lst, dr_dic, dr_tpx, tru_bl, tru_lst, tru_tup, cm_lt, cm_le, cm_gt, cm_ge, cm_eqi, cm_eqs, cm_nei, cm_nes, bn_add, bn_addt, bn_addl, bn_sub, bn_mulR, bn_mulL, bn_div, bn_mod, bi_lent, bi_lenl, bi_tupt, bi_tupl, bi_listt, bi_listl, bi_int, bi_sum, bi_all, ix_t, ix_l, ix_s, pt_no, pt_i, no_none, no_int, no_v, no_bin, no_neg, sl_t, sl_l, List.map_cons, List.map_nil, List.length_cons, List.length_nil, List.replicate, List.cons_append, List.nil_append, List.getElem?_cons_zero, List.getElem?_cons_succ, List.set_cons_zero, List.set_cons_succ, Option.bind_some, Option.map_some, Option.bind_none, Option.map_none, Nat.reduceAdd, Nat.reduceSub, Nat.reduceLT, Nat.reduceLeDiff, ↓reduceIte, reduceCtorEq, Bool.false_eq_true, Bool.true_and, Bool.and_true, Bool.false_and, Bool.and_false, Bool.not_true, Bool.not_false, if_true, if_false, out_ret, trimM]
theorem strs_of : ∀ {l ys : List D}, RelT (fun _ o => ∃ s : Str, o = some (.str s)) l ys → ∃ L : List Str, ys = L.map D.str ∧ L.length = l.length
  | _, _, .nil => ⟨[], rfl, rfl⟩
  | _, _, .cons (x := x) (l := l) ⟨s, hs⟩ t => by
    obtain ⟨L, e, hl⟩ := strs_of t
    subst hs
    exact ⟨s :: L, by rw [e]; rfl, by rw [List.length_cons, List.length_cons, hl]⟩
def heads : List D := [.str "@_u", .str "_u"]
theorem heads_ok : ∀ d ∈ heads, ∃ x : Str, d = .str x ∧ x.length ≤ 3 := by
  intro d hd
  unfold heads at hd
  simp only [List.mem_cons, List.not_mem_nil, or_false] at hd
  rcases hd with rfl | rfl <;> exact ⟨_, rfl, by decide⟩
theorem sti_5 {v : Int} (h0 : 0 ≤ v) (h1 : v < 5) : v.natAbs.log2 < 1920 ∧ (Str.ofString (toString v)).length ≤ 2 := by
  obtain ⟨k, rfl⟩ := nat_of h0
  exact ⟨sti_k (k := k) (by omega), dg_len k (by omega)⟩
/-- the names that are taken -/
theorem taken_dr (n : Nat) (x0 x2 x3 x4 x5 x6 x7 x8 x9 x10 x11 x12 x13 x14 x15 x16 x17 : Rv) (h3 : ∀ l, x3 ≠ .mls l) {M : Mem} (h : Bx [] M) :
    ∃ (L : List Str) (M' : Mem), L.length = 6 ∧ Bx [] M' ∧ evE (calls fds dat (n + 6)) dat b30_5 ⟨[x0, .val (.ref 1), x2, x3, x4, x5, x6, x7, x8, x9, x10, x11, x12, x13, x14, x15, x16, x17], M⟩ =
      .ok (.mls (L.map D.str), ⟨[x0, .val (.ref 1), x2, x3, x4, x5, x6, x7, x8, x9, x10, x11, x12, x13, x14, x15, x16, x17], M'⟩) := by
  have rg : rng2D (.int 0) (.int 6) = some (rngD ((0 : Nat) : Int) 1 6) := rng_ok (n := 6) (by decide)
  obtain ⟨ys, M', hr, h2, e⟩ := ev_lcDO (C := calls fds dat (n + 6)) (D' := dat) (vs := [3]) (tg := .nm 3) (it := .rng1 (.int 6)) (c := .yes) (el := b30_4) (s := ⟨[x0, .val (.ref 1), x2, x3, x4, x5, x6, x7, x8, x9, x10, x11, x12, x13, x14, x15, x16, x17], M⟩)
    (σ0 := [x0, .val (.ref 1), x2, x3, x4, x5, x6, x7, x8, x9, x10, x11, x12, x13, x14, x15, x16, x17]) (σ := [x0, .val (.ref 1), x2, .un, x4, x5, x6, x7, x8, x9, x10, x11, x12, x13, x14, x15, x16, x17]) (l := rngD ((0 : Nat) : Int) 1 6) (Q := fun _ o => ∃ s : Str, o = some (.str s))
    (by simp only [rel_bl, rel_int, rel_str, rel_non, rel_tup, rel_tpx, rel_lst, rel_dic, rel_mls, evSs, evS, evE, evEs, evB, evI, asgT, asgTs, rdV_k, rd_val, rd_mls, b2_k, bd_k, op_k, op_n, fz_val, fz_mls, bl_k, dr_int, dr_bl, dr_non, dr_str, dr_tup, dr_lst, dr_dic, dr_tpx, tru_bl, tru_lst, tru_tup, cm_lt, cm_le, cm_gt, cm_ge, cm_eqi, cm_eqs, cm_nei, cm_nes, bn_add, bn_addt, bn_addl, bn_sub, bn_mulR, bn_mulL, bn_div, bn_mod, bi_lent, bi_lenl, bi_tupt, bi_tupl, bi_listt, bi_listl, bi_int, bi_sum, bi_all, ix_t, ix_l, ix_s, pt_no, pt_i, no_none, no_int, no_v, no_bin, no_neg, sl_t, sl_l, List.map_cons, List.map_nil, List.length_cons, List.length_nil, List.replicate, List.cons_append, List.nil_append, List.getElem?_cons_zero, List.getElem?_cons_succ, List.set_cons_zero, List.set_cons_succ, Option.bind_some, Option.map_some, Option.bind_none, Option.map_none, Nat.reduceAdd, Nat.reduceSub, Nat.reduceLT, Nat.reduceLeDiff, ↓reduceIte, reduceCtorEq, Bool.false_eq_true, Bool.true_and, Bool.and_true, Bool.false_and, Bool.and_false, Bool.not_true, Bool.not_false, if_true, if_false, rg]) h (wipe_no h3) (by rw [rng_len]; exact le_seq (by omega)) rfl rfl rfl rfl fun x hx M hM => by
      obtain ⟨v, M1, v0, v1, k1, e1⟩ := dr (n + 4) 2 (by decide) (by decide) hM
      obtain ⟨u, M2, u0, u1, k2, e2⟩ := dr (n + 4) 5 (by decide) (by decide) k1
      obtain ⟨d, ea, hm⟩ := at_some (l := heads) (v := v) v0 (by exact v1)
      obtain ⟨y, rfl, hy⟩ := heads_ok d hm
      obtain ⟨s1, s2⟩ := sti_5 u0 u1
      have ad : binD .add (.str y) (.str (Str.ofString (toString u))) = some (.val (.str (y ++ Str.ofString (toString u)))) := bn_adds (le_seq (by omega))
      unfold heads at ea
      refine ⟨some (.str (y ++ Str.ofString (toString u))), M2, ⟨_, rfl⟩, k2, [x0, .val (.ref 1), x2, .val x, x4, x5, x6, x7, x8, x9, x10, x11, x12, x13, x14, x15, x16, x17], [x0, .val (.ref 1), x2, .val x, x4, x5, x6, x7, x8, x9, x10, x11, x12, x13, x14, x15, x16, x17], [x0, .val (.ref 1), x2, .val x, x4, x5, x6, x7, x8, x9, x10, x11, x12, x13, x14, x15, x16, x17], M, true, rfl, rfl, ⟨.val (.str (y ++ Str.ofString (toString u))), ?_, rfl⟩, rfl⟩
      unfold b30_4
      simp only [rel_bl, rel_int, rel_str, rel_non, rel_tup, rel_tpx, rel_lst, rel_dic, rel_mls, evSs, evS, evE, evEs, evB, evI, asgT, asgTs, rdV_k, rd_val, rd_mls, b2_k, bd_k, op_k, op_n, fz_val, fz_mls, bl_k, dr_int, dr_bl, dr_non, dr_str, dr_tup, dr_lst, dr_dic, dr_tpx, tru_bl, tru_lst, tru_tup, cm_lt, cm_le, cm_gt, cm_ge, cm_eqi, cm_eqs, cm_nei, cm_nes, bn_add, bn_addt, bn_addl, bn_sub, bn_mulR, bn_mulL, bn_div, bn_mod, bi_lent, bi_lenl, bi_tupt, bi_tupl, bi_listt, bi_listl, bi_int, bi_sum, bi_all, ix_t, ix_l, ix_s, pt_no, pt_i, no_none, no_int, no_v, no_bin, no_neg, sl_t, sl_l, List.map_cons, List.map_nil, List.length_cons, List.length_nil, List.replicate, List.cons_append, List.nil_append, List.getElem?_cons_zero, List.getElem?_cons_succ, List.set_cons_zero, List.set_cons_succ, Option.bind_some, Option.map_some, Option.bind_none, Option.map_none, Nat.reduceAdd, Nat.reduceSub, Nat.reduceLT, Nat.reduceLeDiff, ↓reduceIte, reduceCtorEq, Bool.false_eq_true, Bool.true_and, Bool.and_true, Bool.false_and, Bool.and_false, Bool.not_true, Bool.not_false, if_true, if_false, e1, e2, ea, s1, ad, q2]
  obtain ⟨L, rfl, hl⟩ := strs_of hr
  rw [rng_len] at hl
  exact ⟨L, M', hl, h2, e⟩
theorem q38 : (38 : Nat) ≤ seqLine := by decide
theorem r12 : rngD ((0 : Nat) : Int) 1 12 = ([0, 1, 2, 3, 4, 5, 6, 7, 8, 9, 10, 11] : List Int).map D.int := rfl
theorem first_u0 : nm true 0 = ("@_u0" : Str) := by decide +kernel
theorem key (n : Nat) (ks : List Int) : ∃ s, evSs (calls fds dat (n + 6)) dat b30 ⟨[.val (.lst (ks.map D.int)), .un, .un, .un, .un, .un, .un, .un, .un, .un, .un, .un, .un, .un, .un, .un, .un, .un], []⟩ = .ok (.ret (.val (.bl true)), s) := by
  have hb := law_box (Ps := fds) (D' := dat) (f := 15) rfl (n + 5) ks
  have hb' : calls fds dat (n + 6) 15 [.lst (ks.map D.int)] [] = .ok (.val (.ref 1), BoxM (ks.take 63) 0 (4711 + ks.length) []) := hb
  have k0 : Bx [] (BoxM (ks.take 63) 0 (4711 + ks.length) []) := ⟨_, _, _, rfl⟩
  generalize BoxM (ks.take 63) 0 (4711 + ks.length) [] = M0 at hb' k0
  have er := fun M => errs_c (n + 5) M
  have rg12 : rng2D (.int 0) (.int 12) = some (rngD ((0 : Nat) : Int) 1 12) := rng_ok (n := 12) (by decide)
  rw [r12] at rg12
  obtain ⟨vs, y3, M1, k1, hv, lv, h3, e1⟩ := loop_val n [0, 1, 2, 3, 4, 5, 6, 7, 8, 9, 10, 11] vals0 vals0_ok (by decide) (.val (.lst (ks.map D.int))) .un .un .un .un .un .un .un .un .un .un .un .un .un .un .un (fun l z => by cases z) M0 k0
  have lv' : vs.length ≤ 900 := by rw [lv]; decide
  have e2 := all_judged n ks hv lv' y3 M1
  have b1' := bls_true vs
  have b2' := all_true vs
  obtain ⟨ts, M2, ht, lt, k2, e3⟩ := terms_dr n ks (vs := vs) y3 h3 k1
  have e4 := sort_ev n ks (vs := vs) ht lt y3 M2
  have e5 := srk_of (n + 5) ht
  have pl : Pl 2 (.lst (inOrd ts)) := ⟨by rw [inOrd_len]; omega, fun x hx => pl_term (ht x (inOrd_mem.mp hx))⟩
  have e6 := same (D' := dat) (me := 18) (hm := rfl) (Ps := fds) 2 (n + 3) _ pl M2
  have e6' : calls fds dat (n + 6) 18 [.lst (inOrd ts), .lst (inOrd ts)] M2 = .ok (.val (.bl true), M2) := e6
  obtain ⟨y7, y8, y9, y10, y11, y12, y13, M3, k3, e7⟩ := loop_term n ts ht (.val (.lst (ks.map D.int))) (.val (.lst vs)) y3 .un (.val (.lst ts)) .un .un .un .un .un .un .un .un .un .un .un .un M2 k2
  obtain ⟨L, M4, hL, k4, e8⟩ := taken_dr n (.val (.lst (ks.map D.int))) (.val (.lst vs)) y3 .un (.val (.lst ts)) .un y7 y8 y9 y10 y11 y12 y13 .un .un .un .un h3 k3
  have q1 : (1 : Nat) ≤ seqLine := by decide
  have sz : (L.map D.str).length + 1 ≤ seqLine := le_seq (by rw [List.length_map, hL]; decide)
  have ap : L.map D.str ++ [D.str "@x"] = (L ++ [("@x" : Str)]).map D.str := by rw [List.map_append]; rfl
  have l14 : (L ++ [("@x" : Str)]).length ≤ 14 := by rw [List.length_append, hL]; decide
  obtain ⟨z11, e9⟩ := turn_fresh (n + 2) true l14 (.mls ((L ++ [("@x" : Str)]).map D.str)) (.inr rfl) (.val (.lst (ks.map D.int))) (.val (.ref 1)) (.val (.lst vs)) y3 .un (.val (.lst ts)) .un y7 y8 y9 y10 y11 y12 y13 .un .un .un (fun l z => by cases z) k4
  obtain ⟨w11, e10⟩ := turn_fresh (n + 2) false l14 (.val (.lst ((L ++ [("@x" : Str)]).map D.str))) (.inl rfl) (.val (.lst (ks.map D.int))) (.val (.ref 1)) (.val (.lst vs)) y3 .un (.val (.lst ts)) .un y7 y8 y9 y10 z11 y12 y13 (.val (.bl true)) (.val (.str (hd true))) .un (fun l z => by cases z) k4
  have tx : IsTerm (.str "@x") := .inr (.inl ⟨"@x", ⟨by decide, by decide +kernel⟩, rfl⟩)
  have t0 : IsTerm (.int 0) := .inl ⟨0, rfl⟩
  have f1 := put_d (n + 4) tx t0 "@x" M4
  have f1' : putT (.str "@x") "@x" (.int 0) = .int 0 := by
    unfold putT
    rw [show isS "@x" (nameIn (.str "@x")) = true from isS_y, if_pos rfl]
    rfl
  rw [f1'] at f1
  have f2 := name_in_d (n + 5) t0 M4
  have f3 := fresh_d (n + 5) nms_0 true 0 (by decide) (fun i hi => absurd hi (by omega)) (by simp) M4
  rw [first_u0] at f3
  have s0 := smT (C := n + 4) (d := .int 0) trivial M4
  have s1 := smT (C := n + 4) (d := .non) trivial M4
  have s2 := smT (C := n + 4) (d := .str "@_u0") trivial M4
  have dx : ∀ M l, drX M (.lst l) = .lst l := fun _ _ => rfl
  have q0 : (0 : Nat) ≤ seqLine := Nat.zero_le _
  refine ⟨⟨[.val (.lst (ks.map D.int)), .val (.ref 1), .val (.lst vs), y3, .un, .val (.lst ts), .un, y7, y8, y9, y10, w11, y12, y13, .val (.lst ((L ++ [("@x" : Str)]).map D.str)), .val (.bl false), .val (.str (hd false)), .un], M4⟩, ?_⟩
  unfold b30
  refine (seq_nx (s' := ⟨[.val (.lst (ks.map D.int)), .val (.ref 1), .un, .un, .un, .un, .un, .un, .un, .un, .un, .un, .un, .un, .un, .un, .un, .un], M0⟩) ?_).trans ?_
  · simp only [rel_bl, rel_int, rel_str, rel_non, rel_tup, rel_tpx, rel_lst, rel_dic, rel_mls, evSs, evS, evE, evEs, evB, evI, asgT, asgTs, rdV_k, rd_val, rd_mls, b2_k, bd_k, op_k, op_n, fz_val, fz_mls, bl_k, dr_int, dr_bl, dr_non, dr_str, dr_tup, dr_lst, dr_dic, dr_tpx, tru_bl, tru_lst, tru_tup, cm_lt, cm_le, cm_gt, cm_ge, cm_eqi, cm_eqs, cm_nei, cm_nes, bn_add, bn_addt, bn_addl, bn_sub, bn_mulR, bn_mulL, bn_div, bn_mod, bi_lent, bi_lenl, bi_tupt, bi_tupl, bi_listt, bi_listl, bi_int, bi_sum, bi_all, ix_t, ix_l, ix_s, pt_no, pt_i, no_none, no_int, no_v, no_bin, no_neg, sl_t, sl_l, List.map_cons, List.map_nil, List.length_cons, List.length_nil, List.replicate, List.cons_append, List.nil_append, List.getElem?_cons_zero, List.getElem?_cons_succ, List.set_cons_zero, List.set_cons_succ, Option.bind_some, Option.map_some, Option.bind_none, Option.map_none, Nat.reduceAdd, Nat.reduceSub, Nat.reduceLT, Nat.reduceLeDiff, ↓reduceIte, reduceCtorEq, Bool.false_eq_true, Bool.true_and, Bool.and_true, Bool.false_and, Bool.and_false, Bool.not_true, Bool.not_false, if_true, if_false, hb']
  refine (seq_nx (s' := ⟨[.val (.lst (ks.map D.int)), .val (.ref 1), .un, .un, .un, .un, .un, .un, .un, .un, .un, .un, .un, .un, .un, .un, .un, .un], M0⟩) ?_).trans ?_
  · simp only [rel_bl, rel_int, rel_str, rel_non, rel_tup, rel_tpx, rel_lst, rel_dic, rel_mls, evSs, evS, evE, evEs, evB, evI, asgT, asgTs, rdV_k, rd_val, rd_mls, b2_k, bd_k, op_k, op_n, fz_val, fz_mls, bl_k, dr_int, dr_bl, dr_non, dr_str, dr_tup, dr_lst, dr_dic, dr_tpx, tru_bl, tru_lst, tru_tup, cm_lt, cm_le, cm_gt, cm_ge, cm_eqi, cm_eqs, cm_nei, cm_nes, bn_add, bn_addt, bn_addl, bn_sub, bn_mulR, bn_mulL, bn_div, bn_mod, bi_lent, bi_lenl, bi_tupt, bi_tupl, bi_listt, bi_listl, bi_int, bi_sum, bi_all, ix_t, ix_l, ix_s, pt_no, pt_i, no_none, no_int, no_v, no_bin, no_neg, sl_t, sl_l, List.map_cons, List.map_nil, List.length_cons, List.length_nil, List.replicate, List.cons_append, List.nil_append, List.getElem?_cons_zero, List.getElem?_cons_succ, List.set_cons_zero, List.set_cons_succ, Option.bind_some, Option.map_some, Option.bind_none, Option.map_none, Nat.reduceAdd, Nat.reduceSub, Nat.reduceLT, Nat.reduceLeDiff, ↓reduceIte, reduceCtorEq, Bool.false_eq_true, Bool.true_and, Bool.and_true, Bool.false_and, Bool.and_false, Bool.not_true, Bool.not_false, if_true, if_false, er]
  refine (seq_nx (s' := ⟨[.val (.lst (ks.map D.int)), .val (.ref 1), .mls vals0, .un, .un, .un, .un, .un, .un, .un, .un, .un, .un, .un, .un, .un, .un, .un], M0⟩) ?_).trans ?_
  · unfold vals0
    simp only [rel_bl, rel_int, rel_str, rel_non, rel_tup, rel_tpx, rel_lst, rel_dic, rel_mls, evSs, evS, evE, evEs, evB, evI, asgT, asgTs, rdV_k, rd_val, rd_mls, b2_k, bd_k, op_k, op_n, fz_val, fz_mls, bl_k, dr_int, dr_bl, dr_non, dr_str, dr_tup, dr_lst, dr_dic, dr_tpx, tru_bl, tru_lst, tru_tup, cm_lt, cm_le, cm_gt, cm_ge, cm_eqi, cm_eqs, cm_nei, cm_nes, bn_add, bn_addt, bn_addl, bn_sub, bn_mulR, bn_mulL, bn_div, bn_mod, bi_lent, bi_lenl, bi_tupt, bi_tupl, bi_listt, bi_listl, bi_int, bi_sum, bi_all, ix_t, ix_l, ix_s, pt_no, pt_i, no_none, no_int, no_v, no_bin, no_neg, sl_t, sl_l, List.map_cons, List.map_nil, List.length_cons, List.length_nil, List.replicate, List.cons_append, List.nil_append, List.getElem?_cons_zero, List.getElem?_cons_succ, List.set_cons_zero, List.set_cons_succ, Option.bind_some, Option.map_some, Option.bind_none, Option.map_none, Nat.reduceAdd, Nat.reduceSub, Nat.reduceLT, Nat.reduceLeDiff, ↓reduceIte, reduceCtorEq, Bool.false_eq_true, Bool.true_and, Bool.and_true, Bool.false_and, Bool.and_false, Bool.not_true, Bool.not_false, if_true, if_false, q38, q0, q2, q3, Int.reduceNeg]
  refine (seq_nx (s' := ⟨[.val (.lst (ks.map D.int)), .val (.ref 1), .mls vs, y3, .un, .un, .un, .un, .un, .un, .un, .un, .un, .un, .un, .un, .un, .un], M1⟩) ?_).trans ?_
  · unfold b30_17
    have hi : evI (calls fds dat (n + 6)) dat (.rng1 (.int 12)) ⟨[.val (.lst (ks.map D.int)), .val (.ref 1), .mls vals0, .un, .un, .un, .un, .un, .un, .un, .un, .un, .un, .un, .un, .un, .un, .un], M0⟩ = .ok (([0, 1, 2, 3, 4, 5, 6, 7, 8, 9, 10, 11] : List Int).map D.int, ⟨[.val (.lst (ks.map D.int)), .val (.ref 1), .mls vals0, .un, .un, .un, .un, .un, .un, .un, .un, .un, .un, .un, .un, .un, .un, .un], M0⟩) := by
      simp only [evI, evE, b2_k, fz_val, rg12, op_k, bd_k]
    rw [evS, hi, b2_k]
    exact e1
  refine (seq_nx (s' := ⟨[.val (.lst (ks.map D.int)), .val (.ref 1), .val (.lst vs), y3, .un, .un, .un, .un, .un, .un, .un, .un, .un, .un, .un, .un, .un, .un], M1⟩) ?_).trans ?_
  · simp only [rel_bl, rel_int, rel_str, rel_non, rel_tup, rel_tpx, rel_lst, rel_dic, rel_mls, evSs, evS, evE, evEs, evB, evI, asgT, asgTs, rdV_k, rd_val, rd_mls, b2_k, bd_k, op_k, op_n, fz_val, fz_mls, bl_k, dr_int, dr_bl, dr_non, dr_str, dr_tup, dr_lst, dr_dic, dr_tpx, tru_bl, tru_lst, tru_tup, cm_lt, cm_le, cm_gt, cm_ge, cm_eqi, cm_eqs, cm_nei, cm_nes, bn_add, bn_addt, bn_addl, bn_sub, bn_mulR, bn_mulL, bn_div, bn_mod, bi_lent, bi_lenl, bi_tupt, bi_tupl, bi_listt, bi_listl, bi_int, bi_sum, bi_all, ix_t, ix_l, ix_s, pt_no, pt_i, no_none, no_int, no_v, no_bin, no_neg, sl_t, sl_l, List.map_cons, List.map_nil, List.length_cons, List.length_nil, List.replicate, List.cons_append, List.nil_append, List.getElem?_cons_zero, List.getElem?_cons_succ, List.set_cons_zero, List.set_cons_succ, Option.bind_some, Option.map_some, Option.bind_none, Option.map_none, Nat.reduceAdd, Nat.reduceSub, Nat.reduceLT, Nat.reduceLeDiff, ↓reduceIte, reduceCtorEq, Bool.false_eq_true, Bool.true_and, Bool.and_true, Bool.false_and, Bool.and_false, Bool.not_true, Bool.not_false, if_true, if_false, e2, b1', b2']
  refine (seq_nx (s' := ⟨[.val (.lst (ks.map D.int)), .val (.ref 1), .val (.lst vs), y3, .un, .mls ts, .un, .un, .un, .un, .un, .un, .un, .un, .un, .un, .un, .un], M2⟩) ?_).trans ?_
  · simp only [rel_bl, rel_int, rel_str, rel_non, rel_tup, rel_tpx, rel_lst, rel_dic, rel_mls, evSs, evS, evE, evEs, evB, evI, asgT, asgTs, rdV_k, rd_val, rd_mls, b2_k, bd_k, op_k, op_n, fz_val, fz_mls, bl_k, dr_int, dr_bl, dr_non, dr_str, dr_tup, dr_lst, dr_dic, dr_tpx, tru_bl, tru_lst, tru_tup, cm_lt, cm_le, cm_gt, cm_ge, cm_eqi, cm_eqs, cm_nei, cm_nes, bn_add, bn_addt, bn_addl, bn_sub, bn_mulR, bn_mulL, bn_div, bn_mod, bi_lent, bi_lenl, bi_tupt, bi_tupl, bi_listt, bi_listl, bi_int, bi_sum, bi_all, ix_t, ix_l, ix_s, pt_no, pt_i, no_none, no_int, no_v, no_bin, no_neg, sl_t, sl_l, List.map_cons, List.map_nil, List.length_cons, List.length_nil, List.replicate, List.cons_append, List.nil_append, List.getElem?_cons_zero, List.getElem?_cons_succ, List.set_cons_zero, List.set_cons_succ, Option.bind_some, Option.map_some, Option.bind_none, Option.map_none, Nat.reduceAdd, Nat.reduceSub, Nat.reduceLT, Nat.reduceLeDiff, ↓reduceIte, reduceCtorEq, Bool.false_eq_true, Bool.true_and, Bool.and_true, Bool.false_and, Bool.and_false, Bool.not_true, Bool.not_false, if_true, if_false, e3]
  refine (seq_nx (s' := ⟨[.val (.lst (ks.map D.int)), .val (.ref 1), .val (.lst vs), y3, .un, .val (.lst ts), .un, .un, .un, .un, .un, .un, .un, .un, .un, .un, .un, .un], M2⟩) ?_).trans ?_
  · simp only [rel_bl, rel_int, rel_str, rel_non, rel_tup, rel_tpx, rel_lst, rel_dic, rel_mls, evSs, evS, evE, evEs, evB, evI, asgT, asgTs, rdV_k, rd_val, rd_mls, b2_k, bd_k, op_k, op_n, fz_val, fz_mls, bl_k, dr_int, dr_bl, dr_non, dr_str, dr_tup, dr_lst, dr_dic, dr_tpx, tru_bl, tru_lst, tru_tup, cm_lt, cm_le, cm_gt, cm_ge, cm_eqi, cm_eqs, cm_nei, cm_nes, bn_add, bn_addt, bn_addl, bn_sub, bn_mulR, bn_mulL, bn_div, bn_mod, bi_lent, bi_lenl, bi_tupt, bi_tupl, bi_listt, bi_listl, bi_int, bi_sum, bi_all, ix_t, ix_l, ix_s, pt_no, pt_i, no_none, no_int, no_v, no_bin, no_neg, sl_t, sl_l, List.map_cons, List.map_nil, List.length_cons, List.length_nil, List.replicate, List.cons_append, List.nil_append, List.getElem?_cons_zero, List.getElem?_cons_succ, List.set_cons_zero, List.set_cons_succ, Option.bind_some, Option.map_some, Option.bind_none, Option.map_none, Nat.reduceAdd, Nat.reduceSub, Nat.reduceLT, Nat.reduceLeDiff, ↓reduceIte, reduceCtorEq, Bool.false_eq_true, Bool.true_and, Bool.and_true, Bool.false_and, Bool.and_false, Bool.not_true, Bool.not_false, if_true, if_false, e5, e4, e6']
  refine (seq_nx (s' := ⟨[.val (.lst (ks.map D.int)), .val (.ref 1), .val (.lst vs), y3, .un, .val (.lst ts), .un, y7, y8, y9, y10, y11, y12, y13, .un, .un, .un, .un], M3⟩) ?_).trans ?_
  · unfold b30_7
    have hi : evI (calls fds dat (n + 6)) dat (.of (.v 5)) ⟨[.val (.lst (ks.map D.int)), .val (.ref 1), .val (.lst vs), y3, .un, .val (.lst ts), .un, .un, .un, .un, .un, .un, .un, .un, .un, .un, .un, .un], M2⟩ = .ok (ts, ⟨[.val (.lst (ks.map D.int)), .val (.ref 1), .val (.lst vs), y3, .un, .val (.lst ts), .un, .un, .un, .un, .un, .un, .un, .un, .un, .un, .un, .un], M2⟩) := by
      simp only [rel_bl, rel_int, rel_str, rel_non, rel_tup, rel_tpx, rel_lst, rel_dic, rel_mls, evSs, evS, evE, evEs, evB, evI, asgT, asgTs, rdV_k, rd_val, rd_mls, b2_k, bd_k, op_k, op_n, fz_val, fz_mls, bl_k, dr_int, dr_bl, dr_non, dr_str, dr_tup, dr_lst, dr_dic, dr_tpx, tru_bl, tru_lst, tru_tup, cm_lt, cm_le, cm_gt, cm_ge, cm_eqi, cm_eqs, cm_nei, cm_nes, bn_add, bn_addt, bn_addl, bn_sub, bn_mulR, bn_mulL, bn_div, bn_mod, bi_lent, bi_lenl, bi_tupt, bi_tupl, bi_listt, bi_listl, bi_int, bi_sum, bi_all, ix_t, ix_l, ix_s, pt_no, pt_i, no_none, no_int, no_v, no_bin, no_neg, sl_t, sl_l, List.map_cons, List.map_nil, List.length_cons, List.length_nil, List.replicate, List.cons_append, List.nil_append, List.getElem?_cons_zero, List.getElem?_cons_succ, List.set_cons_zero, List.set_cons_succ, Option.bind_some, Option.map_some, Option.bind_none, Option.map_none, Nat.reduceAdd, Nat.reduceSub, Nat.reduceLT, Nat.reduceLeDiff, ↓reduceIte, reduceCtorEq, Bool.false_eq_true, Bool.true_and, Bool.and_true, Bool.false_and, Bool.and_false, Bool.not_true, Bool.not_false, if_true, if_false, it_l]
    rw [evS, hi, b2_k]
    exact e7
  refine (seq_nx (s' := ⟨[.val (.lst (ks.map D.int)), .val (.ref 1), .val (.lst vs), y3, .un, .val (.lst ts), .un, y7, y8, y9, y10, y11, y12, y13, .mls ((L ++ [("@x" : Str)]).map D.str), .un, .un, .un], M4⟩) ?_).trans ?_
  · simp only [rel_bl, rel_int, rel_str, rel_non, rel_tup, rel_tpx, rel_lst, rel_dic, rel_mls, evSs, evS, evE, evEs, evB, evI, asgT, asgTs, rdV_k, rd_val, rd_mls, b2_k, bd_k, op_k, op_n, fz_val, fz_mls, bl_k, dr_int, dr_bl, dr_non, dr_str, dr_tup, dr_lst, dr_dic, dr_tpx, tru_bl, tru_lst, tru_tup, cm_lt, cm_le, cm_gt, cm_ge, cm_eqi, cm_eqs, cm_nei, cm_nes, bn_add, bn_addt, bn_addl, bn_sub, bn_mulR, bn_mulL, bn_div, bn_mod, bi_lent, bi_lenl, bi_tupt, bi_tupl, bi_listt, bi_listl, bi_int, bi_sum, bi_all, ix_t, ix_l, ix_s, pt_no, pt_i, no_none, no_int, no_v, no_bin, no_neg, sl_t, sl_l, List.map_cons, List.map_nil, List.length_cons, List.length_nil, List.replicate, List.cons_append, List.nil_append, List.getElem?_cons_zero, List.getElem?_cons_succ, List.set_cons_zero, List.set_cons_succ, Option.bind_some, Option.map_some, Option.bind_none, Option.map_none, Nat.reduceAdd, Nat.reduceSub, Nat.reduceLT, Nat.reduceLeDiff, ↓reduceIte, reduceCtorEq, Bool.false_eq_true, Bool.true_and, Bool.and_true, Bool.false_and, Bool.and_false, Bool.not_true, Bool.not_false, if_true, if_false, e8, q1, sz, ap]
  refine (seq_nx (s' := ⟨[.val (.lst (ks.map D.int)), .val (.ref 1), .val (.lst vs), y3, .un, .val (.lst ts), .un, y7, y8, y9, y10, w11, y12, y13, .val (.lst ((L ++ [("@x" : Str)]).map D.str)), .val (.bl false), .val (.str (hd false)), .un], M4⟩) ?_).trans ?_
  · unfold b30_3
    have hi : evI (calls fds dat (n + 6)) dat (.of (.tup (.cons (.tup (.cons (.bl true) (.cons (.str "@_u") .nil))) (.cons (.tup (.cons (.bl false) (.cons (.str "_u") .nil))) .nil)))) ⟨[.val (.lst (ks.map D.int)), .val (.ref 1), .val (.lst vs), y3, .un, .val (.lst ts), .un, y7, y8, y9, y10, y11, y12, y13, .mls ((L ++ [("@x" : Str)]).map D.str), .un, .un, .un], M4⟩ =
        .ok ([.tup [.bl true, .str (hd true)], .tup [.bl false, .str (hd false)]], ⟨[.val (.lst (ks.map D.int)), .val (.ref 1), .val (.lst vs), y3, .un, .val (.lst ts), .un, y7, y8, y9, y10, y11, y12, y13, .mls ((L ++ [("@x" : Str)]).map D.str), .un, .un, .un], M4⟩) := by
      simp only [rel_bl, rel_int, rel_str, rel_non, rel_tup, rel_tpx, rel_lst, rel_dic, rel_mls, evSs, evS, evE, evEs, evB, evI, asgT, asgTs, rdV_k, rd_val, rd_mls, b2_k, bd_k, op_k, op_n, fz_val, fz_mls, bl_k, dr_int, dr_bl, dr_non, dr_str, dr_tup, dr_lst, dr_dic, dr_tpx, tru_bl, tru_lst, tru_tup, cm_lt, cm_le, cm_gt, cm_ge, cm_eqi, cm_eqs, cm_nei, cm_nes, bn_add, bn_addt, bn_addl, bn_sub, bn_mulR, bn_mulL, bn_div, bn_mod, bi_lent, bi_lenl, bi_tupt, bi_tupl, bi_listt, bi_listl, bi_int, bi_sum, bi_all, ix_t, ix_l, ix_s, pt_no, pt_i, no_none, no_int, no_v, no_bin, no_neg, sl_t, sl_l, List.map_cons, List.map_nil, List.length_cons, List.length_nil, List.replicate, List.cons_append, List.nil_append, List.getElem?_cons_zero, List.getElem?_cons_succ, List.set_cons_zero, List.set_cons_succ, Option.bind_some, Option.map_some, Option.bind_none, Option.map_none, Nat.reduceAdd, Nat.reduceSub, Nat.reduceLT, Nat.reduceLeDiff, ↓reduceIte, reduceCtorEq, Bool.false_eq_true, Bool.true_and, Bool.and_true, Bool.false_and, Bool.and_false, Bool.not_true, Bool.not_false, if_true, if_false, q2, itD]
      rfl
    rw [evS, hi, b2_k, forL_nx e9, forL_nx e10]
    rfl
  rw [show nameIn (.int 0) = .non from rfl] at f2
  simp only [rel_bl, rel_int, rel_str, rel_non, rel_tup, rel_tpx, rel_lst, rel_dic, rel_mls, evSs, evS, evE, evEs, evB, evI, asgT, asgTs, rdV_k, rd_val, rd_mls, b2_k, bd_k, op_k, op_n, fz_val, fz_mls, bl_k, dr_int, dr_bl, dr_non, dr_str, dr_tup, dr_lst, dr_dic, dr_tpx, tru_bl, tru_lst, tru_tup, cm_lt, cm_le, cm_gt, cm_ge, cm_eqi, cm_eqs, cm_nei, cm_nes, bn_add, bn_addt, bn_addl, bn_sub, bn_mulR, bn_mulL, bn_div, bn_mod, bi_lent, bi_lenl, bi_tupt, bi_tupl, bi_listt, bi_listl, bi_int, bi_sum, bi_all, ix_t, ix_l, ix_s, pt_no, pt_i, no_none, no_int, no_v, no_bin, no_neg, sl_t, sl_l, List.map_cons, List.map_nil, List.length_cons, List.length_nil, List.replicate, List.cons_append, List.nil_append, List.getElem?_cons_zero, List.getElem?_cons_succ, List.set_cons_zero, List.set_cons_succ, Option.bind_some, Option.map_some, Option.bind_none, Option.map_none, Nat.reduceAdd, Nat.reduceSub, Nat.reduceLT, Nat.reduceLeDiff, ↓reduceIte, reduceCtorEq, Bool.false_eq_true, Bool.true_and, Bool.and_true, Bool.false_and, Bool.and_false, Bool.not_true, Bool.not_false, if_true, if_false, q0, q1, q2, dx, dct1, f1, f2, f3, s0, s1, s2]
theorem plain_law (ks : List Int) (_ : ks.length ≤ 63) : ∃ M, calls fds dat 60 30 [.lst (ks.map D.int)] [] = .ok (.val (.bl true), M) := by
  obtain ⟨s, h⟩ := key 53 ks
  refine ⟨Ev.trim 0 (.val (.bl true)) s.M, ?_⟩
  · show Ul.R fds dat (59 + 1) _ _ _ = _
    rw [r_step (f := 30) (ar := 1) (ns := 18) (b := b30) rfl rfl]
    show outT 0 (evSs (calls fds dat (53 + 6)) dat b30 _) = _
    have : (([.lst (ks.map D.int)] : List D).map Rv.val ++ List.replicate (18 - ([.lst (ks.map D.int)] : List D).length) .un) = [.val (.lst (ks.map D.int)), .un, .un, .un, .un, .un, .un, .un, .un, .un, .un, .un, .un, .un, .un, .un, .un, .un] := rfl
    rw [this, h, out_ret, rel_bl]
end K00


set_option Elab.async false
set_option linter.all false
set_option maxRecDepth 100000
namespace E00
open PySem PySem.W PyProof.Rows PySem.Calls
/-- except D as n: the suite, whatever the frames below are -/
theorem hitE {prog : Program} {w : World} {A₀ : Around} {E : Value → Shared → Prop} {s' : Shared} {base g G : Heap} {outer : List Env} {L a e t : Addr} {m : Str → Option Value} {name : Str} {scope : Scope} {cd cls c2 : Value} {vs : List Value} {n : Str} {b₀ : Stmt} {suite : List Stmt}
    {pos : Pos} {rest : List ExceptHandler} {Q : Flow → Shared → Prop} {news : List (Addr × Obj)} {KF : Frag} {tt : Expr} {p : Program} {loose : List Str} {mean : ExcName → Option Value} {mg mb : Str → Option Value} {dd : Option Addr}
    (R : RaisedSD base G (envOf name scope L a cd :: outer) e cls t vs c2 dd news s'.heap) (F : Fr g L G m)
    (B : Below A₀ base outer g) (U : G.UpToSlots s'.heap) (XB : KF.In base) (TB : Top p loose mean mg mb base)
    (T : KtsTest prog w KF p loose mg mb name scope L a cd cls tt true)
    (k : ∀ h1 g1 ws sl tk, KtsTurn (outer.filterMap (·.frame)) g g1 → Fr g1 L h1 (fun y => if y = n then some (.ref e) else m y) →
      News g1 L h1 ((e, ⟨cls, dd, .fields ws, sl⟩) :: news) → ws[2]? = some c2 → AllNe e news → Below A₀ base outer g1 → KF.In g1 → Top p loose mean mg mb g1 →
      ∀ E1, wpAny (model prog w) ((A₀.deeper (envOf name scope L a cd)).mark (some (.ref e))) (execs (b₀ :: suite) (envOf name scope L a cd))
        (fun f s4 => wpAny (model prog w) (A₀.deeper (envOf name scope L a cd))
          (do bindName (envOf name scope L a cd) n .none; unbindBehindTheSuite (envOf name scope L a cd) n pos) (fun _ s5 => Q f s5) E s4) E1
        { s' with heap := h1, toks := tk })
    (hk : scope.kind = .function := by rfl) (hlo : (envOf name scope L a cd).kindOf n = some .local := by rfl) :
    wpAny (model prog w) (A₀.deeper (envOf name scope L a cd))
      (handleBy (.ref e) (envOf name scope L a cd) (.ExceptHandler (some tt) (some n) (b₀ :: suite) pos :: rest)) Q E s' := by
  have R0 := R
  obtain ⟨⟨B1, _, x1, _, fl1, _⟩, _⟩ := R0
  obtain ⟨g5, T5, F5, K5⟩ := kts_ground B F x1 fl1.1 U
  refine wpAny_handleBy_cons (codeAny_handlers_test (T _ _ _ _ g5 e m F5 (XB.keeps K5.stays) (topRead_of (TB.keeps K5.stays)) R.ty fun h5 kp => ?_)) (by intro q; cases q)
  have U5 : G.UpToSlots h5 := U.trans (Heap.UpToSlots.of_keeps kp)
  obtain ⟨⟨B2, y0, y1, y2, y3, y4⟩, y5⟩ := R.keeps kp
  refine codeAny_handlers_suite_as ?_
  refine lands_againD y3 fun h6 fl6 U6 => ?_
  have U7 := U5.trans U6
  obtain ⟨g6, T6, F6, K6⟩ := kts_ground B F y1 fl6.1 U7
  obtain ⟨f1, f2, f3, oe, ws, z1, z2, z3, he, ⟨c1, c3, c4, c5⟩, hd, r⟩ := fl6
  have hL : B2.get? L = none := by
    obtain ⟨_, ⟨L', _, e1, e2, _⟩, _⟩ := f3
    cases e1
    exact e2
  have ge : g6.get? e = none := T6.none_ _ (kts_fresh F y1 f2 fun o ho hm => by
    obtain ⟨_, o', ho', n'⟩ := B.frames.mem hm
    cases ho.symm.trans ho'
    obtain ⟨sl, q⟩ := U7 _ _ (F.keep _ _ ho) n'
    cases he.symm.trans q
    exact n' _ hd)
  have N1 : News g6 L h6 [(e, oe)] := News.more F6 News.nil he (fun es n q => by rw [hd] at q; cases q) ge
  have N2 : News g6 L h6 ((e, oe) :: news) := fun q hq => by
    rcases List.mem_cons.mp hq with rfl | hq
    · exact N1 _ (.head _)
    · refine ⟨f1 _ _ (y2 q hq).1, fun z => ?_, T6.none_ _ (kts_none F.keep (y2 q hq).2.1)⟩
      have := (y2 q hq).1
      rw [z, hL] at this
      cases this
  have ne : AllNe e news := allNe_of fun q hq z => by
    have := (y2 q hq).1
    rw [z, f2] at this
    cases this
  obtain ⟨oc, od, oa, ol⟩ := oe
  dsimp only at c1 c5 hd
  subst c1 c5 hd
  refine stN F6 N2 (fun h7 F7 N7 => ?_) hk hlo
  exact k h7 g6 ws ol _ T6 F7 N7 c4 ne K6 (XB.keeps K6.stays) (TB.keeps K6.stays) _
/-- a call's end, cut off -/
theorem cut_call {M : Model} {A : Around} {c : Sem Value} {h₀ : Heap} {L : Addr} {m : Str → Option Value} {news : List (Addr × Obj)} {Q : Value → Shared → Prop} {E : Value → Shared → Prop} {s : Shared} (F : Fr h₀ L s.heap m) (N : News h₀ L s.heap news)
    (a : ∀ (Q' : Value → Shared → Prop) (E' : Value → Shared → Prop), (∀ h' tk', Fr h₀ L h' m → News h₀ L h' news → Q' (.bool true) { s with heap := h', toks := tk' }) → wpAny M A c Q' E' s)
    (b : ∀ h' tk', Fr h₀ L h' m → News h₀ L h' news → Q (.bool true) { s with heap := h', toks := tk' }) : wpAny M A c Q E s := a Q E b
/-! ### while an exception is handled -/
section
open HotX
variable {prog : Program} {w : World} {A : Around} {E : Value → Shared → Prop} {s : Shared}
/-- what is handled, as it stands at x -/
def HotE (x : Addr) (h : Heap) : Prop := ∃ (o : Obj) (vs : Array Value), h.get? x = some o ∧ o.data = .fields vs ∧ vs[2]? = some .none
theorem HotE.keeps {x : Addr} {h h' : Heap} (a : HotE x h) (k : ∀ o, h.get? x = some o → h'.get? x = some o) : HotE x h' := let ⟨o, vs, e, r⟩ := a; ⟨o, vs, k o e, r⟩
theorem list_end_hot {it l x1 : Addr} {i : Nat} {items : Array Value} {Q : Option Value → Shared → Prop} (hh : A.handled = some (.ref x1)) (hx : HotE x1 s.heap) (ne : x1 ≠ it) (a : s.heap.IsListIter it l i) (b : s.heap.IsList l items) (c : items[i]? = none)
    (q : ∀ h', Heap.ExtBut it s.heap h' → Q none { s with heap := h' }) : wpAny (model prog w) A (pyNext (.ref it)) Q E s := by
  obtain ⟨o, ho, hc, hd⟩ := id a
  obtain ⟨o2, ho2, _, n2, hd2⟩ := b
  obtain ⟨o1, vs1, h1, d1, c1⟩ := hx
  unfold pyNext
  refine wpAny_bind (wpAny_attempt (wpAny_callSpecial?_slot (name := Str.ofString "__next__") a.typeIs slot_listiter_next (wpAny_call_entry slot_listiter_next a.typeIs entry_listiter_next ?_ (args_listiter_next _))))
  show wpAny _ _ (field (.ref it) 0 >>= _) _ _ _
  refine wpAny_bind (wpAny_field ho hd (x := .ref l) rfl ?_)
  refine if_neg (show ¬ ((Value.ref l == Value.none) = true) from Bool.false_ne_true) ▸ ?_
  show wpAny _ _ (field (.ref it) 1 >>= _) _ _ _
  refine wpAny_bind (wpAny_field ho hd (x := .int i 0) rfl ?_)
  show wpAny _ _ (seqItems? (.ref l) >>= _) _ _ _
  refine wpAny_bind (wpAny_seqItems ho2 hd2 ?_)
  simp only [Int.toNat_natCast, c]
  refine wpAny_bind (wpAny_rule (wpAny_bind (wpAny_setField ho hd (by simp) ?_)))
  show wpAny _ _ (newExc (.type "StopIteration") [] >>= _) _ _ _
  refine wpAny_bind ?_
  simp only [newExc, newTuple]
  refine wpAny_bind (wpAny_newObj_type ?_ (by size_fits))
  refine wpAny_bind (m := firstArgMember _ _) (wpAny_of_eq (a := Value.none) (by first | rfl | (simp only [firstArgMember]; rfl)) ?_)
  refine wpAny_newObj_type ?_ (by size_fits)
  have up : ∀ u v, (Heap.push (Heap.push (s.heap.update it (Obj.mapFields (·.setIfInBounds 0 .none))) u) v).get? x1 = some o1 := fun u v => Heap.get?_push_of_some _ (Heap.get?_push_of_some _ (by rw [Heap.get?_update_other _ _ (Ne.symm ne)]; exact h1))
  refine raiseNew_hot ⟨hh, o1, vs1, up _ _, d1, c1⟩ (Nat.ne_of_lt (Heap.lt_size (o := o1) ?z)) (Heap.get?_push_size _ rfl) rfl (by first | (simp; done) | (simp; omega) | (simp only [Array.size_append]; simp; omega)) ?_
  case z => exact Heap.get?_push_of_some _ (by rw [Heap.get?_update_other _ _ (Ne.symm ne)]; exact h1)
  refine wpAny_bind (wpAny_isInstance (T := "StopIteration") (b := true) ⟨_, Heap.get?_update_self _ (Heap.get?_push_size _ rfl) rfl, rfl⟩ isSubtype_stop ?_)
  refine wpAny_pure (q _ fun b o hb e => ?_)
  have e2 : ∀ u, (Heap.push (s.heap.update it (Obj.mapFields (·.setIfInBounds 0 .none))) u).get? b = some o := fun u => Heap.get?_push_of_some _ (by rw [Heap.get?_update_other _ _ (Ne.symm hb)]; exact e)
  refine (Heap.get?_update_other _ _ (Nat.ne_of_gt (Heap.lt_size (e2 _)))).trans ?_
  exact Heap.get?_push_of_some _ (e2 _)
theorem walks_listH {x1 : Addr} (hh : A.handled = some (.ref x1)) (I ax : Addr) (n1 : ax ≠ I) (n2 : x1 ≠ I) (items : Array Value) :
    Walks prog w A I [I, ax, x1] [I] items.size (fun i v => items[i]? = some v) (fun i h => (h.IsListIter I ax i ∧ h.IsList ax items) ∧ HotE x1 h) where
  sub := fun b hb => by simp at hb; simp [hb]
  frame := fun _ _ _ st k => ⟨⟨st.1.1.at fun o e => k I (by simp) o e, st.1.2.at fun o e => k ax (by simp) o e⟩, st.2.keeps fun o e => k x1 (by simp) o e⟩
  item := fun i s Q E hi st q => by
    refine wpAny_pyNext_list_item st.1.1 st.1.2 (x := items[i]) (by simp [hi]) fun h' it' sb => ?_
    refine q _ h' s.toks (by simp [hi]) ⟨⟨it', st.1.2.extBut sb.extBut n1⟩, st.2.keeps fun o e => sb.extBut x1 o n2 e⟩ fun b o hb e => sb.extBut b o (fun z => hb (by simp [z])) e
  done := fun s Q E st q => list_end_hot hh st.2 n2 st.1.1 st.1.2 (by simp) fun h' he => q h' s.toks fun b o hb e => he b o (fun z => hb (by simp [z])) e
  self := fun _ _ _ _ st q => wpAny_pyIter_listiter st.1.1 q
theorem walks_rangeH {x1 : Addr} (hh : A.handled = some (.ref x1)) (I : Addr) (n2 : x1 ≠ I) (a : Int) (n : Nat) :
    Walks prog w A I [I, x1] [I] n (fun i v => ∃ t, v = .int (a + (i : Int)) t) (fun i h => IsRangeIter h I (a + (i : Nat) * 1) ((n : Int) - (i : Nat)) 1 ∧ HotE x1 h) where
  sub := fun b hb => by simp at hb; simp [hb]
  frame := fun _ _ _ st k => ⟨k I (by simp) _ st.1, st.2.keeps fun o e => k x1 (by simp) o e⟩
  item := fun i s Q E hi st q => by
    refine wpAny_pyNext_range_item st.1 (by omega) fun h' st' sb => ?_
    refine q _ h' _ ⟨_, by rw [Int.mul_one]⟩ ⟨?_, st.2.keeps fun o e => sb.extBut x1 o n2 e⟩ fun b o hb e => sb.extBut b o (fun z => hb (by simp [z])) e
    have e1 : a + ((i : Nat) : Int) * 1 + 1 = a + ((i + 1 : Nat) : Int) * 1 := by omega
    have e2 : (n : Int) - ((i : Nat) : Int) - 1 = (n : Int) - ((i + 1 : Nat) : Int) := by omega
    rw [← e1, ← e2]
    exact st'
  done := fun s Q E st q => by
    obtain ⟨o, vs, z⟩ := st.2
    exact pyNext_range_end_hot ⟨hh, o, vs, z⟩ st.1 (by omega) fun h' he => q h' s.toks fun b o _ e => he b o e
  self := fun _ _ _ _ st q => wpAny_pyIter_rangeiter st.1 q
/-- all of a list of bools -/
theorem all_hot {h₀ : Heap} {L l x1 : Addr} {m : Str → Option Value} {news : List (Addr × Obj)} {oe : Obj} {xs : Array Value} {vs : List Value} {bs : List Bool} {Q : Value → Shared → Prop} (F : Fr h₀ L s.heap m) (N : News h₀ L s.heap news) (hh : A.handled = some (.ref x1)) (me : (x1, oe) ∈ news) (de : oe.data = .fields xs)
    (ce : xs[2]? = some .none) (hl : s.heap.IsList l vs.toArray) (hb : LSm.BoolsAre vs bs) (h : ∀ h' tk, Fr h₀ L h' m → News h₀ L h' news → Q (.bool (bs.all id)) { s with heap := h', toks := tk }) : wpAny (model prog w) A (call (.builtin "all") [.ref l]) Q E s := by
  have hlt : l < s.heap.objs.size := by obtain ⟨_, e, _⟩ := hl; exact Heap.lt_size e
  have hxt : x1 < s.heap.objs.size := Heap.lt_size (N _ me).1
  refine call_all_walk (wpAny_pyIter_list hl ?_)
  refine ⟨s.heap.objs.size, [s.heap.objs.size, l, x1], [s.heap.objs.size], vs.toArray.size, _, _, fun i => (bs[i]?).getD true, rfl, walks_listH (A := A.in1) hh _ l (Nat.ne_of_lt hlt) (Nat.ne_of_lt hxt) vs.toArray,
    ⟨⟨⟨_, Heap.get?_push_size _ rfl, rfl, rfl⟩, hl.push _⟩, ⟨oe, xs, Heap.get?_push_of_some _ (N _ me).1, de, ce⟩⟩, fun i v s' Q' E' hP hQ => ?_, fun h' tk hk => ?_⟩
  · obtain ⟨b, e, rfl⟩ := hb.get i v (by simpa using hP)
    have h2 : Q' ((bs[i]?).getD true) s' := hQ
    rw [e] at h2
    exact wpAny_truthy_bool h2
  · rw [show ((List.range vs.toArray.size).all fun i => (bs[i]?).getD true) = bs.all id by rw [List.size_toArray, hb.length]; exact LSm.range_all bs]
    exact h h' tk (F.keeps (LSm.kept_iter hk)) (N.grown (LSm.kept_iter hk))
/-- what a comprehension's range must be -/
def SrcH (prog : Program) (w : World) (A : Around) (h₀ : Heap) (L : Addr) (m : Str → Option Value) (env : Env) (elt : Expr) (x : Str) (scope : Scope) (cl : List (Str × Addr)) (Fin : Shared → List Value → List (Addr × Obj) → Prop) (xv : Value) (s1 : Shared) : Prop :=
  ∃ x1 oe xs r a b t u v n news, xv = .ref r ∧ A.handled = some (.ref x1) ∧ (x1, oe) ∈ news ∧ oe.data = .fields xs ∧ xs[2]? = some .none ∧ Fr h₀ L s1.heap m ∧ News h₀ L s1.heap news ∧ IsRange s1.heap r a b 1 t u v ∧ Builtin.Range.small a b 1 = true ∧
    Builtin.Range.rangeSize a b 1 = ((n : Nat) : Int) ∧ n ≤ sizeLine ∧
    ∀ s2 : Shared, (∃ h, s2 = { s1 with heap := h }) → LCg.CompRest prog w A h₀ L m env elt x scope cl s2 (fun nw => (x1, oe) ∈ nw) (fun i v => ∃ t, v = .int (a + (i : Int)) t) (Fin s2) n 0 [] news
theorem SrcH.mk {h₀ : Heap} {L : Addr} {m : Str → Option Value} {env : Env} {elt : Expr} {x : Str} {scope : Scope} {cl : List (Str × Addr)} {Fin : Shared → List Value → List (Addr × Obj) → Prop} {s1 : Shared} {x1 r : Addr} {oe : Obj} {xs : Array Value} {a b : Int} {t u v : Tok} {n : Nat} {news : List (Addr × Obj)}
    (hh : A.handled = some (.ref x1)) (F : Fr h₀ L s1.heap m) (N : News h₀ L s1.heap news) (me : (x1, oe) ∈ news) (de : oe.data = .fields xs) (ce : xs[2]? = some .none) (hr : IsRange s1.heap r a b 1 t u v) (hsm : Builtin.Range.small a b 1 = true) (hn : Builtin.Range.rangeSize a b 1 = ((n : Nat) : Int)) (hsz : n ≤ sizeLine)
    (h : ∀ g, LCg.CompRest prog w A h₀ L m env elt x scope cl { s1 with heap := g } (fun nw => (x1, oe) ∈ nw) (fun i v => ∃ t, v = .int (a + (i : Int)) t) (Fin { s1 with heap := g }) n 0 [] news) :
    SrcH prog w A h₀ L m env elt x scope cl Fin (.ref r) s1 := ⟨x1, oe, xs, r, a, b, t, u, v, n, news, rfl, hh, me, de, ce, F, N, hr, hsm, hn, hsz, fun _ ⟨g, e⟩ => e ▸ h g⟩
theorem comp_hot {h₀ : Heap} {L : Addr} {m : Str → Option Value} {env : Env} {elt iter : Expr} {x : Str} {px : Pos} {scope : Scope} {cl : List (Str × Addr)} {pos : Pos} {Q : Value → Shared → Prop} (F0 : Fr h₀ L s.heap m) (c1 : closureFor scope env = pure cl) (c2 : ∀ y ∈ scope.names, y.2 ≠ .cell)
    (c3 : scope.kind = .function) (c4 : ∀ y ∈ scope.names, y.2 = .local → scope.names.lookup y.1 = some .local) (c5 : scope.names.lookup x = some .local)
    (h : wpAny (model prog w) A (eval iter env) (SrcH prog w A h₀ L m env elt x scope cl (fun s2 => LCg.FinE h₀ L m s2 Q)) E s) (hs : ∀ x, foldedSetIterable iter env x = pure x := by intro _; rfl) :
    wpAny (model prog w) A (eval (.ListComp elt [⟨.Name x px, iter, [], 0⟩] scope pos) env) Q E s := by
  rw [eval_ListComp]
  refine wpAny_comprehension_free (use := none) rfl hs c1 c3 c4 (wpAny_mono h (fun xv s1 h1 => ?_) fun _ _ e => e)
  obtain ⟨x1, oe, xs, r, a, b, t, u, v, n, news, rfl, hh, me, de, ce, F, N, hr, hsm, hn, hsz, R⟩ := h1
  have hxt : x1 < s1.heap.objs.size := Heap.lt_size (N _ me).1
  refine wpAny_pyIter_range hr hsm ?_
  refine LCg.block_U (walks_rangeH hh _ (Nat.ne_of_lt hxt) a n) hsz (fun i h st => ⟨_, st.1⟩) (fun i h h' o nw st e e' k N' S => ?_) c2 c3 c5 ⟨by show IsRangeIter _ _ _ _ _; rw [hn]; simpa using Heap.get?_push_size _ rfl, ⟨oe, xs, Heap.get?_push_of_some _ (N _ me).1, de, ce⟩⟩ (fun b hb => ?_)
    (F.keeps fun _ _ e => Heap.get?_push_of_some _ e) (N.grown fun _ _ e => Heap.get?_push_of_some _ e) (Nat.ne_of_lt F.ns.lt) (next_is_new F) (fun p hp => Nat.ne_of_lt (Heap.lt_size (N p hp).1)) me (R _ ⟨_, rfl⟩) ?_
  · have st1 : h.get? _ = some _ := st.1
    rw [e] at st1
    cases st1
    exact ⟨e', ⟨oe, xs, (N' _ S).1, de, ce⟩⟩
  · show b < (s1.heap.push _).objs.size
    rw [Heap.size_push]
    simp only [List.mem_cons, List.not_mem_nil, or_false] at hb
    rcases hb with rfl | rfl
    · exact Nat.lt_succ_self _
    · exact Nat.lt_succ_of_lt hxt
  · intro D C h tk m' ys news' F' N' o1 hns hC hD hCL hDL hCD off fin
    refine ⟨m', hns, fun h2 sb => fin D h2 tk (F'.change sb hCL hC) (fun p hp => ⟨sb.extBut _ _ ?_ (N' p hp).1, (N' p hp).2⟩) o1⟩
    rcases List.mem_cons.mp hp with rfl | hp
    · exact Ne.symm hCD
    · exact off p hp
end
end E00


set_option Elab.async false
set_option linter.all false
set_option maxRecDepth 100000
open PySem PySem.W PyProof.Rows
set_option maxRecDepth 100000 in
set_option maxHeartbeats 0 in
open_top E00.top for PySem.Challenge.rw_heapsparted_k00_names_and_terms


set_option Elab.async false
set_option linter.all false
set_option maxRecDepth 100000
namespace E00
open PySem PySem.W PyProof.Rows
theorem kitx2 {K : Frag} {x C : Addr} {ox : Obj} {od : Option Obj} {gt : Option Value} (hga : findIn K (.ref C) "__getattribute__" = some (some (.builtin "BaseException.__getattribute__"))) (hgt : findIn K (.ref C) "__getattr__" = some gt)
    (hsub : subIn K (.ref C) (.type "BaseException") = some true) (ha : findIn K (.ref C) "__class__" = some (some (.builtin "object.__class__"))) (hn : specialIn K (.builtin "object.__class__") "__get__" = some (some (.builtin "getset_descriptor.__get__")))
    (htk : takesIn K (.builtin "object.__class__") = some true) (hm : mroIn K C (.type "object") = some true) : KitX K (.ref x) (.ref C) (fun h => InstAt h x ox C od) :=
  kitx_exc (by
    cases e : clsIn K C with
    | some _ => rfl
    | none =>
      unfold mroIn at hm
      rw [e] at hm
      cases hm) hga hgt hsub ha hn htk hm
def Tag (l : OpenLaw) : Prop := True
def tops (i : Nat) : Stmt := PySem.Challenge.pw_heapsparted_k00_names_and_terms.main.body.getD i (.Pass ⟨0, 0, 0, 0⟩)
def suiteOf : Stmt → List Stmt
  | .Try _ [.ExceptHandler _ _ b _] _ _ _ => b
  | _ => []
/-- the suite -/
def SuiteC (P : Program) (w : World) (K : Frag) (p : Program) (loose : List Str) (mean : ExcName → Option Value) (mg mb : Str → Option Value) (f : Addr) (qual : Str) (st : Stmt) (scope : Scope) (cdv : Value) (C : Addr) : Prop :=
  ∀ (outer : List Env) (base h₀ : Heap) (L l e e0 e1 e2 dx d2 t : Addr) (k k2 k3 k4 : Nat) (ws : Array Value) (sl : Array (Option Value)) (s : Shared) (Q : Flow → Shared → Prop) (E : Value → Shared → Prop),
    Below { handled := none, depth := 988, frames := some outer, guards := none, units := 9667 } base outer h₀ →
    Fr h₀ L s.heap (fun y => if y = "error" then some (Value.ref e) else if y = "made" then some (Value.ref l) else List.lookup y ([] : List (Str × Value))) → K.In h₀ →
    News h₀ L s.heap [(e, ⟨.ref C, some d2, .fields ws, sl⟩), (d2, dictOf [{ hash := PyData.keyHash w.params "place", key := Value.str "place" k3, val := Value.int 9 k4 }] 1), (l, W.listOf #[Value.ref e0, Value.ref e1, Value.ref e2] 0),
      (dx, dictOf [{ hash := PyData.keyHash w.params "place", key := Value.str "place" k, val := Value.int 7 k2 }] 1), (e2, excObj C t (some dx) Value.none)] → ws[2]? = some Value.none → (e ≠ d2 ∧ e ≠ l ∧ e ≠ dx ∧ e ≠ e2) → Top p loose mean mg mb h₀ →
    (∀ h' tk', Fr h₀ L h' (fun y => if y = "error" then some (Value.ref e) else if y = "made" then some (Value.ref l) else List.lookup y ([] : List (Str × Value))) → News h₀ L h' [(e, ⟨.ref C, some d2, .fields ws, sl⟩)] → Q (.ret (.bool true)) { s with heap := h', toks := tk' }) →
    wpAny (model P w) ((({ handled := none, depth := 988, frames := some outer, guards := none, units := 9667 } : Around).deeper (envOf qual scope L f cdv)).mark (some (.ref e))) (execs (suiteOf st) (envOf qual scope L f cdv)) Q E s
/-- the def as it is written out -/
theorem conv {K : Frag} {f : Addr} {name qual : Str} {params : Arguments} {body : List Stmt} {scope : Scope} {dV kV doc pm cdv ct oc : Value} {an od : Option Addr} {osl : Array (Option Value)} {R : Str → List Stmt → Scope → Value → Prop}
    (ho : K.lookup f = some ⟨oc, od, .func (fnOf name qual params body scope dV kV doc pm an cdv ct), osl⟩) {q' : Str} {b' : List Stmt} {s' : Scope} {c' : Value} (hq : qual = q') (hb : body = b') (hs : scope = s') (hc : cdv = c') (h : R qual body scope cdv) : R q' b' s' c' := by
  subst hq hb hs hc
  exact h
end E00


set_option Elab.async false
set_option linter.all false
set_option maxRecDepth 100000
namespace E00
open PySem PySem.W PyProof.Rows
/-- two equal ints told the same, while an exception is handled: the def's body -/
def SameB (P : Program) (w : World) (K : Frag) (p : Program) (loose : List Str) (mean : ExcName → Option Value) (mg mb : Str → Option Value) (f : Addr) (qual : Str) (body : List Stmt) (scope : Scope) (cdv : Value) : Prop :=
  ∀ (outer : List Env) (base h₀ : Heap) (L x1 : Addr) (i : Int) (t1 t2 : Nat) (oA oB : Obj) (s : Shared) (Q : Flow → Shared → Prop) (E : Value → Shared → Prop),
    Below { handled := some (.ref x1), depth := 990, frames := some outer, guards := none, units := 9673 } base outer h₀ → Fr h₀ L s.heap (fun _ => none) → K.In h₀ → News h₀ L s.heap [(L + 1 + 1, oB), (L + 1, oA)] →
    oB.data = .cell (some (.int i t2)) → oA.data = .cell (some (.int i t1)) → Top p loose mean mg mb h₀ →
    (∀ h' tk', (∀ b o, h₀.get? b = some o → h'.get? b = some o) → Q (.ret (.bool true)) { s with heap := h', toks := tk' }) →
    wpAny (model P w) (({ handled := some (.ref x1), depth := 990, frames := some outer, guards := none, units := 9673 } : Around).deeper (envOfC qual scope L f cdv)) (execs body (envOfC qual scope L f cdv)) Q E s
end E00
open PySem PySem.W PyProof.Rows
set_option maxRecDepth 100000 in
set_option maxHeartbeats 0 in
set_option pp.maxSteps 900 in
set_option pp.deepTerms.threshold 8 in
theorem E00.same_body (tag : E00.Tag PySem.Challenge.rw_heapsparted_k00_names_and_terms) (w : World) (p : Program) (loose : List Str) (mean : ExcName → Option Value) (mg mb : Str → Option Value) :
    E00.SameB PySem.Challenge.pw_heapsparted_k00_names_and_terms w (E00.top.heap_39 w.params) p loose mean mg mb 203 "_law_same" (L2.defBody (E00.tops 28)) (L2.defScope (E00.tops 28)) (.ref 202) := by
  revert tag
  k_fill
  intro tag
  clear tag
  refine' E00.conv (K := E00.top.heap_39 w.params) (f := 203) (R := fun q b s c => E00.SameB PySem.Challenge.pw_heapsparted_k00_names_and_terms w (E00.top.heap_39 w.params) p loose mean mg mb 203 q b s c) ?ho (b' := L2.defBody (E00.tops 28)) ?hq ?hb ?hs ?hc ?hE
  (case ho => k_is)
  (case hq => rfl)
  (case hb => rfl)
  (case hs => rfl)
  (case hc => rfl)
  (case hE =>
    try dsimp only
    unfold E00.SameB
    intro outer base h₀ L x1 i t1 t2 oA oB s Q E B F X₀ N dB dA T hret
    repeat' (first
      | ((with_reducible show Q (Flow.ret (Value.bool _)) _)
         try simp only [beq_self_eq_true, decide_true]
         exact hret _ _ (fun b o e => F.keep b o e))
      | (k_unfold; (try dsimp only))
      | (walk1; (all_goals try dsimp only))
      | (leave1; (try dsimp only))
      | fail "no step"))


set_option Elab.async false
set_option linter.all false
set_option maxRecDepth 100000
set_option maxHeartbeats 2000000
namespace E00
open PySem PySem.W PyProof.Rows PySem.Calls PySem.Spec
/-- bounds may grow -/
theorem code_up {M : Model} {A : Around} {hd : Option Value} {outer : List Env} {c : Code} {R : Result → Shared → Prop} {s : Shared} {d u : Nat} (hh : A.handled = hd) (hf : A.frames = some outer) (h1 : A.depth ≤ d) (h2 : A.units ≤ u)
    (h : codeAny M { handled := hd, depth := d, frames := some outer, guards := none, units := u } c R s) : codeAny M A c R s :=
  fun Γ p hc ⟨b1, b2, b3, b4, b5⟩ => h Γ p hc ⟨b1.trans hh, Nat.le_trans b2 h1, fun l e => b3 l (hf.trans e), fun g e => (nomatch e), Nat.le_trans b5 h2⟩
/-- two equal ints told the same: the call -/
theorem same_call {P : Program} {w : World} {K : Frag} {p : Program} {loose : List Str} {mean : ExcName → Option Value} {mg mb : Str → Option Value} {oc kV dc pm ct : Value} {od an : Option Addr} {sl : Array (Option Value)}
    (ho : K.lookup 203 = some ⟨oc, od, .func (fnOf "_law_same" "_law_same" (L2.defArgs (tops 28)) (L2.defBody (tops 28)) (L2.defScope (tops 28)) .none kV dc pm an (.ref 202) ct), sl⟩) (hcd : codeIn K (.ref 202) "_law_same" = true) (hk : keepIn K (.ref 203) = true)
    (S : SameB P w K p loose mean mg mb 203 "_law_same" (L2.defBody (tops 28)) (L2.defScope (tops 28)) (.ref 202))
    {A : Around} {outer : List Env} {base : Heap} {x1 : Addr} {i : Int} {t1 t2 : Nat} {s : Shared} {Q : Value → Shared → Prop} {E : Value → Shared → Prop} (hh : A.handled = some (.ref x1)) (hf : A.frames = some outer) (hd : A.depth ≤ 990) (hu : A.units ≤ 9673)
    (st : base.StaysIn s.heap) (fr : s.heap.FunFrames base outer) (X : K.In s.heap) (T : Top p loose mean mg mb s.heap)
    (q : ∀ h' tk', (∀ b o, s.heap.get? b = some o → h'.get? b = some o) → Q (.bool true) { s with heap := h', toks := tk' }) : wpAny (model P w) A (call (.ref 203) [.int i t1, .int i t2]) Q E s := by
  have hb : L2.Binds K (fnOf "_law_same" "_law_same" (L2.defArgs (tops 28)) (L2.defBody (tops 28)) (L2.defScope (tops 28)) .none kV dc pm an (.ref 202) ct) ["a", "b"] [] :=
    (L2.fun_mk ho hcd hk).binds (ps := ["a", "b"]) fun _ _ _ _ _ _ us hl => match us, hl with | [_, _], _ => rfl
  refine wpAny_call (code_up hh hf hd hu ?_)
  refine codeAny_call_function (show 990 < recursionLimit by decide) (X _ _ ho) rfl rfl rfl rfl (codeRec_of X hcd) ((hb s [.int i t1, .int i t2] X rfl) _ _ _ _ ?_)
  refine wpAny_newFunctionEnv_cells (by rfl) (fun y hy => ?_) fun env he s1 x => ?_
  · simp only [List.zip_cons_cons, List.zip_nil_left, List.append_nil, List.mem_cons, List.not_mem_nil, or_false, List.zip_nil_right] at hy
    rcases hy with rfl | rfl
    · exact .inr ⟨rfl, rfl⟩
    · exact .inr ⟨rfl, rfl⟩
  subst he
  refine ⟨T.nolimit.keeps x.toInCall.keep, codeAny_func ?_⟩
  obtain ⟨oA, gA, dA⟩ := x.cell "a" (s.heap.objs.size + 1) rfl
  obtain ⟨oB, gB, dB⟩ := x.cell "b" (s.heap.objs.size + 1 + 1) rfl
  have F : Fr s.heap s.heap.objs.size s1.heap (fun _ => none) := ⟨x.toInCall.ns, x.toInCall.keep, Nat.le_refl _⟩
  obtain ⟨h1, tk, rfl, k1⟩ := x.done
  have no : ∀ k, s.heap.get? (s.heap.objs.size + k) = none := fun k => by
    cases e : s.heap.get? (s.heap.objs.size + k) with
    | none => rfl
    | some o => exact absurd (Heap.lt_size e) (Nat.not_lt.mpr (Nat.le_add_right _ _))
  have N : News s.heap s.heap.objs.size h1 [(s.heap.objs.size + 1 + 1, oB), (s.heap.objs.size + 1, oA)] := fun y hy => by
    simp only [List.mem_cons, List.not_mem_nil, or_false] at hy
    rcases hy with rfl | rfl
    · exact ⟨gB, Nat.ne_of_gt (Nat.lt_succ_of_lt (Nat.lt_succ_self _)), no 2⟩
    · exact ⟨gA, Nat.ne_of_gt (Nat.lt_succ_self _), no 1⟩
  refine S outer base s.heap s.heap.objs.size x1 i t1 t2 oA oB _ _ _ ⟨rfl, st, fr⟩ F X N dB dA T fun h' tk' kp => ?_
  exact q h' tk' kp
theorem pushC {A : Around} {base h₀ h : Heap} {outer : List Env} {L a : Addr} {m : Str → Option Value} {name : Str} {scope : Scope} {cd : Value} (K : Below A base outer h₀) (F : Fr h₀ L h m) (hk : scope.kind = .function) :
    base.StaysIn h ∧ h.FunFrames base (envOfC name scope L a cd :: outer) := by
  have new : base.get? L = none := by
    cases q : base.get? L with
    | none => rfl
    | some o => exact absurd (Nat.lt_of_lt_of_le (Heap.lt_size (K.stays L o q)) F.above) (Nat.lt_irrefl _)
  exact ⟨fun b o e => F.keep b o (K.stays b o e), .cons (by show scope.kind ≠ .module; rw [hk]; decide) rfl F.ns new (K.frames.of_keeps fun b o e _ => ⟨o, F.keep b o e, rfl⟩)⟩
/-- .. from a def's frame -/
theorem same_call2 {P : Program} {w : World} {K : Frag} {p : Program} {loose : List Str} {mean : ExcName → Option Value} {mg mb : Str → Option Value} {oc kV dc pm ct : Value} {od an : Option Addr} {sl : Array (Option Value)}
    (ho : K.lookup 203 = some ⟨oc, od, .func (fnOf "_law_same" "_law_same" (L2.defArgs (tops 28)) (L2.defBody (tops 28)) (L2.defScope (tops 28)) .none kV dc pm an (.ref 202) ct), sl⟩) (hcd : codeIn K (.ref 202) "_law_same" = true) (hk : keepIn K (.ref 203) = true)
    (S : SameB P w K p loose mean mg mb 203 "_law_same" (L2.defBody (tops 28)) (L2.defScope (tops 28)) (.ref 202))
    {A₀ : Around} {outer : List Env} {base g : Heap} {n0 : Str} {sc : Scope} {L0 a0 : Addr} {c0 : Value} {m : Str → Option Value} {x1 : Addr} {i : Int} {t1 t2 : Nat} {s : Shared} {Q : Value → Shared → Prop} {E : Value → Shared → Prop} {news : List (Addr × Obj)}
    (B : Below A₀ base outer g) (F : Fr g L0 s.heap m) (N : News g L0 s.heap news) (X : K.In g) (T : Top p loose mean mg mb g) (sk : sc.kind = .function) (hh : A₀.handled = some (.ref x1)) (hd : A₀.depth ≤ 989) (hu : A₀.units ≤ 9670)
    (q : ∀ h' tk', Fr g L0 h' m → News g L0 h' news → Q (.bool true) { s with heap := h', toks := tk' }) : wpAny (model P w) (A₀.deeper (envOfC n0 sc L0 a0 c0)) (call (.ref 203) [.int i t1, .int i t2]) Q E s :=
  let z := pushC (name := n0) (scope := sc) (a := a0) (cd := c0) B F sk
  same_call ho hcd hk S (x1 := x1) hh (Around.frames_deeper B.stack) (show A₀.depth + 1 ≤ 990 by omega) (show A₀.units + 3 ≤ 9673 by omega) z.1 z.2 (X.keeps F.keep) (T.keeps F.keep) fun h' tk' k => q h' tk' (F.keeps k) (N.grown k)
end E00


set_option Elab.async false
set_option linter.all false
set_option maxRecDepth 100000
open PySem PySem.W PyProof.Rows
set_option maxRecDepth 100000 in
set_option maxHeartbeats 0 in
set_option pp.maxSteps 900 in
set_option pp.deepTerms.threshold 8 in
theorem E00.suite (tag : E00.Tag PySem.Challenge.rw_heapsparted_k00_names_and_terms) (w : World) (p : Program) (loose : List Str) (mean : ExcName → Option Value) (mg mb : Str → Option Value) :
    E00.SuiteC PySem.Challenge.pw_heapsparted_k00_names_and_terms w (E00.top.heap_39 w.params) p loose mean mg mb 276 "_law_errors" ((L2.defBody (E00.tops 39)).getD 2 (.Pass ⟨0, 0, 0, 0⟩)) (L2.defScope (E00.tops 39)) (.ref 275) 175 := by
  revert tag
  k_fill
  intro tag
  clear tag
  refine' E00.conv (K := E00.top.heap_39 w.params) (f := 276) (R := fun q b s c => E00.SuiteC PySem.Challenge.pw_heapsparted_k00_names_and_terms w (E00.top.heap_39 w.params) p loose mean mg mb 276 q (b.getD 2 (.Pass ⟨0, 0, 0, 0⟩)) s c 175) ?ho (b' := L2.defBody (E00.tops 39)) ?hq ?hb ?hs ?hc ?hE
  (case ho => k_is)
  (case hq => rfl)
  (case hb => rfl)
  (case hs => rfl)
  (case hc => rfl)
  (case hE =>
    try dsimp only
    unfold E00.SuiteC
    intro outer base h₀ L l e e0 e1 e2 dx d2 t k k2 k3 k4 ws sl s Q E B F X₀ N hw hne T hret
    simp only [List.getD, List.getElem?_cons_succ, List.getElem?_cons_zero, Option.getD_some, E00.suiteOf]
    repeat' (first
      | ((with_reducible show Q (Flow.ret (Value.bool true)) _)
         refine hret _ _ (by assumption) ?_
         intro p hp
         cases List.mem_singleton.mp hp
         exact N' _ (by k_mem))
      | ((with_reducible show Q' (Value.bool true) _)
         rename_i kF kN Tc kX
         exact hq _ _ kF (fun p hp => kN p (List.mem_cons_of_mem _ (List.mem_cons_of_mem _ (List.mem_cons_of_mem _ hp)))))
      | ((with_reducible show wpAny _ _ (call (Value.ref 203) [Value.int _ _, Value.int _ _]) _ _ _)
         refine' E00.same_call2 ?so ?sc ?sk (E00.same_body True.intro w p loose mean mg mb) (base := base) (x1 := e) ?sB ?sF ?sN ?sX ?sT ?sK ?sh ?sd ?su ?_
         (case sB => assumption)
         (case sF => assumption)
         (case sN => assumption)
         (case sX => assumption)
         (case sT => assumption)
         (case so => k_is)
         (case sc => k_is)
         (case sk => k_is)
         (case sK => rfl)
         (case sh => rfl)
         (case sd => exact Nat.le_of_ble_eq_true rfl)
         (case su => exact Nat.le_of_ble_eq_true rfl)
         intro h' tk' F' N'
         try dsimp only)
      | ((with_reducible show wpAny _ _ (call (Value.ref 203) [Value.ref _, Value.ref _]) _ _ _)
         refine' E00.cut_call ?cF ?cN ?ca ?cb
         (case cF => k_asm)
         (case cN => k_asm)
         (case' ca => intro Q' E' hq; walk1; (all_goals try dsimp only))
         (case' cb => intro h' tk' F' N'; try dsimp only))
      | ((with_reducible show wpAny _ _ (handleBy (Value.ref _) _ (ExceptHandler.ExceptHandler (some _) (some _) (_ :: _) _ :: _)) _ _ _)
         refine' E00.hitE ?xR ?xF ?xB ?xU ?xX ?xT ?xK ?_
         (case xR => with_reducible assumption)
         (case xF => assumption)
         (case xB => assumption)
         (case xU => assumption)
         (case xX => exact XTB.1)
         (case xT => exact XTB.2)
         (case xK => kts_test)
         intro h' g' ws' sl' tk' Tu' F' N' cw' e1' K' X' P'
         have cw2 : ws'[2]? = some Value.none := cw'
         clear cw'
         kx_nes e1'
         try dsimp only at N')
      | ((with_reducible show E00.SrcH _ _ _ _ _ _ _ _ _ _ _ _ _ _)
         refine' E00.SrcH.mk ?yh ?yF ?yN ?ym ?yd ?yc ?yr ?ys ?yn ?yz ?_
         (case yh => rfl)
         (case yF => k_asm)
         (case yN => k_asm)
         (case ym => k_mem)
         (case yd => rfl)
         (case yc => assumption)
         (case yr => assumption)
         (case ys => first | decide | rfl)
         (case yn => first | rfl | decide)
         (case yz => first | size_fits | exact Nat.le_of_ble_eq_true rfl)
         intro g'
         lcg_lit)
      | ((with_reducible show wpAny _ _ (eval (Expr.ListComp _ _ _ _) _) _ _ _)
         refine E00.comp_hot (F0 := by k_asm) (by rfl) (by decide) (by rfl) (by decide) (by rfl) ?_
         try dsimp only)
      | ((with_reducible show wpAny _ _ (call (Value.builtin "all") [Value.ref _]) _ _ _)
         refine' E00.all_hot ?vF ?vN ?vh ?vm ?vd ?vc ?vl ?vb ?_
         (case vF => k_asm)
         (case vN => k_asm)
         (case vh => rfl)
         (case vm => k_mem)
         (case vd => rfl)
         (case vc => assumption)
         (case vl => lsm_list)
         (case vb => lsm_bools)
         intro h' tk' F' N'
         try simp only [List.all_cons, List.all_nil, id_eq, Bool.and_true]
         try dsimp only)
      | (k_unfold; (try dsimp only))
      | ((with_reducible show LCg.CompEnd _ _ _ _ _ _ _ _ _ _ _ _ _ _)
         refine LCg.CompEnd.intro (by assumption) (by assumption) _ (fun p hp => hp) (by first | assumption | (simp only [LCg.Off3, and_true]; assumption)) (by first | lcg_src | k_mem) ?_
         try dsimp only)
      | ((with_reducible show wpAny _ _ (call (Value.builtin "isinstance") [Value.ref _, _]) _ _ _)
         refine' kia_one (E00.kitx2 ?z4 ?z5 ?z6 ?z7 ?z8 ?z9 ?z10) ?zX ?zI ?ze ?zn ?_
         (case zX => k_in)
         (case zI => k_inst)
         (case ze => kit_is)
         (case zn => kit_nb)
         (case z4 => k_is)
         (case z5 => k_is)
         (case z6 => k_is)
         (case z7 => k_is)
         (case z8 => k_is)
         (case z9 => k_is)
         (case z10 => k_is)
         k_whole
         intro _
         try dsimp only)
      | ((with_reducible show _root_.PySem.wpAt _ _ _ (exec (Stmt.Expr _ _) _) _ _ _)
         refine ks_wpAt_Expr_any ?_
         try dsimp only)
      | ((with_reducible show _root_.PySem.wpAt _ _ _ (eval (Expr.Call _ _ _ _) _) _ _ _)
         ks_step "eval Call"
         refine ks_wpAt_MethodCall ?_
         try dsimp only)
      | ((fail_if_success (with_reducible show wpAny _ _ (PySem.call (Value.ref 203) _) _ _ _)); (fail_if_success (with_reducible show _root_.PySem.wpAt _ _ _ (eval (Expr.Call _ _ _ _) _) _ _ _)); walk1; (all_goals try dsimp only))
      | (leave1; (try dsimp only))
      | fail "no step")
    skip)


set_option Elab.async false
set_option linter.all false
set_option maxRecDepth 100000
namespace E00
open PySem PySem.W PyProof.Rows
/-- the last statement, from where the first two have ended -/
def TryC (P : Program) (w : World) (K : Frag) (p : Program) (loose : List Str) (mean : ExcName → Option Value) (mg mb : Str → Option Value) (f : Addr) (qual : Str) (st : Stmt) (scope : Scope) (cdv : Value) (C : Addr) : Prop :=
  ∀ (outer : List Env) (base h₀ : Heap) (L l e0 e1 e2 dx t : Addr) (k k2 : Nat) (s : Shared) (Q : Flow → Shared → Prop) (E : Value → Shared → Prop),
    Below { handled := none, depth := 988, frames := some outer, guards := none, units := 9667 } base outer h₀ → Fr h₀ L s.heap (fun y => if y = "made" then some (Value.ref l) else List.lookup y ([] : List (Str × Value))) → K.In h₀ →
    News h₀ L s.heap [(l, W.listOf #[Value.ref e0, Value.ref e1, Value.ref e2] 0), (dx, dictOf [{ hash := PyData.keyHash w.params "place", key := Value.str "place" k, val := Value.int 7 k2 }] 1), (e2, excObj C t (some dx) Value.none)] → Top p loose mean mg mb h₀ → (K.In base ∧ Top p loose mean mg mb base) →
    (∀ h' g' tk', KtsTurn (outer.filterMap (·.frame)) h₀ g' → (∀ b o, g'.get? b = some o → h'.get? b = some o) → Q (.ret (.bool true)) { s with heap := h', toks := tk' }) →
    wpAny (model P w) (({ handled := none, depth := 988, frames := some outer, guards := none, units := 9667 } : Around).deeper (envOf qual scope L f cdv)) (exec st (envOf qual scope L f cdv)) Q E s
end E00
open PySem PySem.W PyProof.Rows
set_option maxRecDepth 100000 in
set_option maxHeartbeats 0 in
set_option pp.maxSteps 900 in
set_option pp.deepTerms.threshold 8 in
theorem E00.trys (tag : E00.Tag PySem.Challenge.rw_heapsparted_k00_names_and_terms) (w : World) (p : Program) (loose : List Str) (mean : ExcName → Option Value) (mg mb : Str → Option Value) :
    E00.TryC PySem.Challenge.pw_heapsparted_k00_names_and_terms w (E00.top.heap_39 w.params) p loose mean mg mb 276 "_law_errors" ((L2.defBody (E00.tops 39)).getD 2 (.Pass ⟨0, 0, 0, 0⟩)) (L2.defScope (E00.tops 39)) (.ref 275) 175 := by
  revert tag
  k_fill
  intro tag
  clear tag
  refine' E00.conv (K := E00.top.heap_39 w.params) (f := 276) (R := fun q b s c => E00.TryC PySem.Challenge.pw_heapsparted_k00_names_and_terms w (E00.top.heap_39 w.params) p loose mean mg mb 276 q (b.getD 2 (.Pass ⟨0, 0, 0, 0⟩)) s c 175) ?ho (b' := L2.defBody (E00.tops 39)) ?hq ?hb ?hs ?hc ?hE
  (case ho => k_is)
  (case hq => rfl)
  (case hb => rfl)
  (case hs => rfl)
  (case hc => rfl)
  (case hE =>
    try dsimp only
    unfold E00.TryC
    intro outer base h₀ L l e0 e1 e2 dx t k k2 s Q E B F X₀ N T XTB hret
    simp only [List.getD, List.getElem?_cons_succ, List.getElem?_cons_zero, Option.getD_some]
    repeat' (first
      | ((with_reducible show Q (Flow.ret (Value.bool true)) _)
         exact hret _ _ _ Tu' (fun b o q => Fr.keep (by assumption) b o q))
      | ((with_reducible show wpAny _ _ (handleBy (Value.ref _) _ (ExceptHandler.ExceptHandler (some _) (some _) (_ :: _) _ :: _)) _ _ _)
         refine' E00.hitE ?xR ?xF ?xB ?xU ?xX ?xT ?xK ?_
         (case xR => with_reducible assumption)
         (case xF => assumption)
         (case xB => assumption)
         (case xU => assumption)
         (case xX => exact XTB.1)
         (case xT => exact XTB.2)
         (case xK => kts_test)
         intro h' g' ws' sl' tk' Tu' F' N' cw' e1' K' X' P' E1
         refine' E00.suite True.intro w p loose mean mg mb _ _ _ _ l _ e0 e1 e2 dx _ t k k2 _ _ _ _ _ _ _ K' F' X' ?uN cw' ⟨fun z => e1'.1 z.symm, fun z => e1'.2.2.2.2.1 z.symm, fun z => e1'.2.2.2.2.2.1 z.symm, fun z => e1'.2.2.2.2.2.2.1 z.symm⟩ P' ?_
         (case uN =>
           intro p hp
           simp only [List.mem_cons, List.not_mem_nil, or_false] at hp
           rcases hp with rfl | rfl | rfl | rfl | rfl <;> exact N' _ (by k_mem))
         intro h2 tk2 F2 N2
         try dsimp only)
      | (k_unfold; (try dsimp only))
      | ((with_reducible show _root_.PySem.wpAt _ _ _ (exec (Stmt.Expr _ _) _) _ _ _)
         refine ks_wpAt_Expr_any ?_
         try dsimp only)
      | ((with_reducible show _root_.PySem.wpAt _ _ _ (eval (Expr.Call _ _ _ _) _) _ _ _)
         ks_step "eval Call"
         refine ks_wpAt_MethodCall ?_
         try dsimp only)
      | ((fail_if_success (with_reducible show _root_.PySem.wpAt _ _ _ (eval (Expr.Call _ _ _ _) _) _ _ _)); walk1; (all_goals try dsimp only))
      | (leave1; (try dsimp only))
      | fail "no step")
    skip)


set_option Elab.async false
set_option linter.all false
set_option maxRecDepth 100000
namespace E00
open PySem PySem.W PyProof.Rows
/-- the body of the errors' def, from any state behind the top -/
def ErrC (P : Program) (w : World) (K : Frag) (p : Program) (loose : List Str) (mean : ExcName → Option Value) (mg mb : Str → Option Value) (f : Addr) (qual : Str) (body : List Stmt) (scope : Scope) (cdv : Value) : Prop :=
  ∀ (outer : List Env) (base h₀ : Heap) (L : Addr) (s : Shared) (Q : Flow → Shared → Prop) (E : Value → Shared → Prop),
    Below { handled := none, depth := 988, frames := some outer, guards := none, units := 9667 } base outer h₀ → Fr h₀ L s.heap (fun y => List.lookup y ([] : List (Str × Value))) → K.In h₀ → News h₀ L s.heap [] → Top p loose mean mg mb h₀ → (K.In base ∧ Top p loose mean mg mb base) →
    (∀ h' g' tk', KtsTurn (outer.filterMap (·.frame)) h₀ g' → (∀ b o, g'.get? b = some o → h'.get? b = some o) → Q (.ret (.bool true)) { s with heap := h', toks := tk' }) →
    wpAny (model P w) (({ handled := none, depth := 988, frames := some outer, guards := none, units := 9667 } : Around).deeper (envOf qual scope L f cdv)) (execs body (envOf qual scope L f cdv)) Q E s
end E00
open PySem PySem.W PyProof.Rows
set_option maxRecDepth 100000 in
set_option maxHeartbeats 0 in
set_option pp.maxSteps 900 in
set_option pp.deepTerms.threshold 8 in
theorem E00.errs (tag : E00.Tag PySem.Challenge.rw_heapsparted_k00_names_and_terms) (w : World) (p : Program) (loose : List Str) (mean : ExcName → Option Value) (mg mb : Str → Option Value) :
    E00.ErrC PySem.Challenge.pw_heapsparted_k00_names_and_terms w (E00.top.heap_39 w.params) p loose mean mg mb 276 "_law_errors" (L2.defBody (E00.tops 39)) (L2.defScope (E00.tops 39)) (.ref 275) := by
  revert tag
  k_fill
  intro tag
  clear tag
  refine' E00.conv (K := E00.top.heap_39 w.params) (f := 276) (R := fun q b s c => E00.ErrC PySem.Challenge.pw_heapsparted_k00_names_and_terms w (E00.top.heap_39 w.params) p loose mean mg mb 276 q b s c) ?ho (b' := L2.defBody (E00.tops 39)) ?hq ?hb ?hs ?hc ?hE
  (case ho => k_is)
  (case hq => rfl)
  (case hb => rfl)
  (case hs => rfl)
  (case hc => rfl)
  (case hE =>
    try dsimp only
    unfold E00.ErrC
    intro outer base h₀ L s Q E B F X₀ N T XTB hret
    repeat' (first
      | ((with_reducible show wpAny _ _ (exec (Stmt.Try _ _ _ _ _) _) _ _ _)
         rename_i h9 k9 F9 N9 k8 k7
         refine' E00.trys True.intro w p loose mean mg mb _ _ _ _ _ _ _ _ _ _ _ _ _ _ _ B F9 X₀ ?uN T XTB ?_
         (case uN =>
           intro p hp
           simp only [List.mem_cons, List.not_mem_nil, or_false] at hp
           rcases hp with rfl | rfl | rfl <;> exact N9 _ (by k_mem))
         intro h' g' tk' Tu kp
         exact hret _ _ _ Tu kp)
      | (k_unfold; (try dsimp only))
      | ((with_reducible show LCg.CompEnd _ _ _ _ _ _ _ _ _ _ _ _ _ _)
         refine LCg.CompEnd.intro (by assumption) (by assumption) _ (fun p hp => hp) (by first | assumption | (simp only [LCg.Off3, and_true]; assumption)) (by lcg_src) ?_
         try dsimp only)
      | ((with_reducible show wpAny _ _ (call (Value.builtin "isinstance") [Value.ref _, _]) _ _ _)
         refine' kia_one (E00.kitx2 ?z4 ?z5 ?z6 ?z7 ?z8 ?z9 ?z10) ?zX ?zI ?ze ?zn ?_
         (case zX => k_in)
         (case zI => k_inst)
         (case ze => kit_is)
         (case zn => kit_nb)
         (case z4 => k_is)
         (case z5 => k_is)
         (case z6 => k_is)
         (case z7 => k_is)
         (case z8 => k_is)
         (case z9 => k_is)
         (case z10 => k_is)
         k_whole
         intro _
         try dsimp only)
      | ((with_reducible show _root_.PySem.wpAt _ _ _ (exec (Stmt.Expr _ _) _) _ _ _)
         refine ks_wpAt_Expr_any ?_
         try dsimp only)
      | ((with_reducible show _root_.PySem.wpAt _ _ _ (eval (Expr.Call _ _ _ _) _) _ _ _)
         ks_step "eval Call"
         refine ks_wpAt_MethodCall ?_
         try dsimp only)
      | ((fail_if_success (with_reducible show _root_.PySem.wpAt _ _ _ (eval (Expr.Call _ _ _ _) _) _ _ _)); walk1; (all_goals try dsimp only))
      | (leave1; (try dsimp only))
      | fail "no step")
    skip)


set_option Elab.async false
set_option linter.all false
set_option maxRecDepth 100000
set_option maxHeartbeats 2000000
/-! E0N: the errors' def, as a def whose promise is given. -/
namespace E00
open PySem PySem.W PyProof.Rows PySem.Calls PySem.Spec
open L2 (V Hp HO SqL Env0 FnOk Room CX0 E0 VK XK Mod)
open Ev (Rep Reps MemOk WC spOf ExE RepC calls Fd D Mem VOk)
/-- a text of nothing but an import -/
def bare (q : Program) : Program := { q with main := { q.main with body := [.ImportFrom (some "sys") [] none ⟨0, 0, 0, 0⟩] } }
/-- a top of nothing -/
theorem top_bare {q : Program} {K : Frag} {mg : Str → Option Value} {base : Heap} {t : Addr} {loose : List Str} (mean : ExcName → Option Value) (m : Mod K mg base) (bm : base.BuiltinsAt mg t) (fr : ∀ x, x ∉ startupNames → x ∉ loose → mg x = none)
    (e : nsOkIn K cStatics = true) (nd : nsIn K cStatics "sys.int_max_str_digits" = some none) : ∃ mb, Top (bare q) loose mean mg mb base := by
  obtain ⟨mb, b1, b2⟩ := m.blt
  refine ⟨mb, m.glob, b1, m.nolimit, ⟨_, .of_isNs (isNs_of_in m.kin e), nsMap_none_of_in m.kin e nd⟩, fun d hd => ?_, fun o ho => ?_, fun x d hx => ?_, fun x h1 h2 _ _ _ => fr x h1 h2, b2, fun d hd => ?_, ?_, fun h => ?_⟩
  · exact absurd (show d ∈ ([] : List DefRec) from hd) (by simp)
  · exact absurd (show o ∈ ([] : List OwnSpec) from ho) (by simp)
  · have : (none : Option PyData) = some d := hx
    cases this
  · exact absurd (show d ∈ ([] : List DefRec) from hd) (by simp)
  · obtain ⟨a, o, z1, z2, _, _, z3, z4, z5, z6⟩ := bm
    exact ⟨a, o, z1, z2, z3, z4, z5, z6⟩
  · have z : importsNone (bare q) = false := rfl
    rw [z] at h
    cases h
theorem loose_of {q : Program} {loose : List Str} {mean : ExcName → Option Value} {mg mb : Str → Option Value} {h : Heap} (T : Top q loose mean mg mb h) :
    ∀ x, x ∉ startupNames → x ∉ loose ++ ((recsOf q).map (·.name) ++ ((litsOf q).map (·.1) ++ (clssOf q loose).map (·.name))) → mg x = none := fun x h1 h2 => by
  rw [List.mem_append, List.mem_append, List.mem_append] at h2
  exact T.free x h1 (fun z => h2 (.inl z)) (fun z => h2 (.inr (.inl z))) (fun z => h2 (.inr (.inr (.inl z)))) fun z => h2 (.inr (.inr (.inr z)))
section
variable {P : Program} {w : World} {K : Frag} {Tb : Addr → Prop} {mg : Str → Option Value} {base : Heap} {Ps : List Fd} {D' : Nat → D} {i : Nat} {t : Addr} {loose : List Str}
variable {oc kV dc pm ct : Value} {od an : Option Addr} {sl : Array (Option Value)}
/-- what the caller sees: nothing but a truth -/
theorem seen {A : Around} {outer : List Env} {s : Shared} {H : Hp} {Q : VK} {E : XK} {h' g' : Heap} {tk : Nat} (e0 : Env0 P w K mg base A outer s H) (T : KtsTurn (outer.filterMap (·.frame)) s.heap g') (k : ∀ b o, g'.get? b = some o → h'.get? b = some o)
    (q : Q (.bl true) H) : L2.CR CX0 outer P w H s Q E (.ok (.ret (.bool true))) { s with heap := h', toks := tk } := by
  have other : ∀ b o, s.heap.get? b = some o → b ∉ L2.frs outer → h'.get? b = some o := fun b o e n => k b o (T.other b o e n)
  have up : ∀ b o, s.heap.get? b = some o → ∃ z, h'.get? b = some { o with slots := z } := fun b o e => let ⟨z, q⟩ := T.up e; ⟨z, k _ _ q⟩
  have nf : ∀ b u, H b = some u → b ∉ L2.frs outer := fun b u e m => by
    rw [e0.frf b m] at e
    cases e
  refine ⟨.bl true, H, rfl, e0.bare, ⟨fun b o e _ n _ => other b o e n, fun b o e _ _ _ => up b o e, fun b o _ n _ => n, fun b o e _ => let ⟨z, q⟩ := up b o e; ⟨_, q⟩, fun _ _ e => e, fun _ _ _ e => e, fun b ps e => ⟨#[], by simpa using e⟩⟩, fun b u e => ?_, rfl, q⟩
  refine (e0.hok b u e).stay (fun c v hc q => other c v q ?_) (fun c q => q) fun c xs q => q
  rcases hc with rfl | hc
  · exact nf _ _ e
  · exact nf _ _ hc
/-- the promise -/
theorem errs_ok (ho : K.lookup 276 = some ⟨oc, od, .func (fnOf "_law_errors" "_law_errors" (L2.defArgs (tops 39)) (L2.defBody (tops 39)) (L2.defScope (tops 39)) .none kV dc pm an (.ref 275) ct), sl⟩) (hcd : codeIn K (.ref 275) "_law_errors" = true)
    (S : ∀ p loose mean mg mb, ErrC P w K p loose mean mg mb 276 "_law_errors" (L2.defBody (tops 39)) (L2.defScope (tops 39)) (.ref 275)) (bm : base.BuiltinsAt mg t) (fr : ∀ x, x ∉ startupNames → x ∉ loose → mg x = none)
    (e : nsOkIn K cStatics = true) (nd : nsIn K cStatics "sys.int_max_str_digits" = some none) (hP : Ps[i]? = some ⟨0, 0, .cons (.ret (.bl true)) .nil⟩) :
    ∀ n : Nat, FnOk P w K mg base CX0 (2 * n) 276 (fnOf "_law_errors" "_law_errors" (L2.defArgs (tops 39)) (L2.defBody (tops 39)) (L2.defScope (tops 39)) .none kV dc pm an (.ref 275) ct) [] (spOf K Tb (calls Ps D' n) i 0)
  | 0 => ⟨fun vs H Q E h => h.1, fun A outer s H args us vs Q E _ _ _ _ h => by
      obtain ⟨_, ds, ρ, F, M, _, _, w⟩ := h
      exact w.elim⟩
  | n + 1 => ⟨fun vs H Q E h => h.1, fun A outer s H args us vs Q E hr e0 hb hv h => by
      obtain ⟨hl, ds, ρ, F, M, rp, mo, wc⟩ := h
      have hv0 : vs = [] := List.length_eq_zero_iff.mp hl
      subst hv0
      have hd0 : ds = [] := List.length_eq_zero_iff.mp (by have := rp.length; simpa using this.symm)
      subst hd0
      have hc : calls Ps D' (n + 1) i [] M = .ok (.val (.bl true), M) := by
        show (match Ps[i]? with | some fd => Ev.runF (calls Ps D' n) D' fd [] M | none => .bad) = _
        rw [hP]
        show (Ev.Res.ok (Ev.Rv.val (D.bl true), Ev.trim M.length (.val (.bl true)) M)) = _
        unfold Ev.trim
        rw [if_pos (Nat.le_refl _)]
      rw [hc] at wc
      have q : Q (.bl true) H := wc (.bl true) ρ F H ExE.refl (fun a f => .inl f) mo (by simp only [RepC, Rep])
      have KX : K.In s.heap := e0.mod.kin.keeps fun b o e => (e0.bs b o e).1
      obtain ⟨mb, TB⟩ := top_bare (q := P) (fun _ => none) e0.mod bm fr e nd
      have TS : Top (bare P) loose (fun _ => none) mg mb s.heap := TB.keeps fun b o e => (e0.bs b o e).1
      have hdp := hr.dp
      have hun := hr.un
      have r1 : recursionLimit = 1000 := rfl
      have r2 : cLine = 9900 := rfl
      refine code_up hr.hd e0.frames (d := 988) (u := 9667) (by omega) (by omega) ?_
      refine codeAny_call_function (show 988 < recursionLimit by decide) (KX _ _ ho) rfl rfl rfl rfl (codeRec_of KX hcd) (hb _ _ _ _ ?_)
      have hz : (([] : List Str).zip us) = [] := rfl
      rw [hz]
      refine wpAny_newFunctionEnv_cells (by rfl) (fun y hy => absurd hy (by simp)) fun env he s1 x => ?_
      subst he
      refine ⟨TS.nolimit.keeps x.toInCall.keep, codeAny_func ?_⟩
      have F1 : Fr s.heap s.heap.objs.size s1.heap (fun y => List.lookup y ([] : List (Str × Value))) := ⟨x.toInCall.ns, x.toInCall.keep, Nat.le_refl _⟩
      obtain ⟨h1, tk, rfl, k1⟩ := x.done
      refine S _ _ _ _ _ outer base s.heap s.heap.objs.size _ _ _ ⟨rfl, fun b o e => (e0.bs b o e).1, e0.funs⟩ F1 KX (fun p hp => nomatch hp) TS ⟨e0.mod.kin, TB⟩ fun h' g' tk' Tu kp => ?_
      exact seen e0 Tu kp q⟩
theorem errs_vok {X : Str} (hm : mg X = some (.ref 276)) (ho : K.lookup 276 = some ⟨oc, od, .func (fnOf "_law_errors" "_law_errors" (L2.defArgs (tops 39)) (L2.defBody (tops 39)) (L2.defScope (tops 39)) .none kV dc pm an (.ref 275) ct), sl⟩) (hcd : codeIn K (.ref 275) "_law_errors" = true) (hk : keepIn K (.ref 276) = true)
    (S : ∀ p loose mean mg mb, ErrC P w K p loose mean mg mb 276 "_law_errors" (L2.defBody (tops 39)) (L2.defScope (tops 39)) (.ref 275)) (bm : base.BuiltinsAt mg t) (fr : ∀ x, x ∉ startupNames → x ∉ loose → mg x = none)
    (e : nsOkIn K cStatics = true) (nd : nsIn K cStatics "sys.int_max_str_digits" = some none) (hP : Ps[i]? = some ⟨0, 0, .cons (.ret (.bl true)) .nil⟩) : VOk P w K Tb mg base D' Ps X i 0 :=
  ⟨276, _, [], hm, hk, errs_ok ho hcd S bm fr e nd hP, (L2.fun_mk ho hcd hk).binds (ps := []) (fun _ _ _ _ _ _ us hl => match us, hl with | [], _ => rfl), rfl⟩
end
end E00


set_option Elab.async false
set_option linter.all false
set_option maxRecDepth 100000
set_option maxHeartbeats 2000000
set_option pp.maxSteps 10
namespace K00
open PySem Ev
/-- the law's promise, by what the top has written -/
theorem law_at {w : World} {K : PySem.W.Frag} {h : Heap} {mg mb : Str → Option Value} {fa : Addr} {q : Program} {loose : List Str} {mean : PySem.ExcName → Option Value} (T : PyProof.Rows.Top q loose mean mg mb h) (X : K.In h) (G : h.Ns mainGlobals mg) (hfa : mg "law" = some (.ref fa))
    (plain : ∀ ks : List Int, ks.length ≤ 63 → ∃ M, calls fds dat 60 30 [.lst (ks.map D.int)] [] = .ok (.val (.bl true), M))
    {f0 f1 f2 f3 f4 f5 f6 f7 f8 f9 f10 f11 f12 f13 f14 f15 f16 f17 f18 f19 f20 f21 f22 f23 f24 f25 f26 f27 f28 f30 e1 t1 : Addr} {oc0 kV0 dc0 pm0 ct0 oc1 kV1 dc1 pm1 ct1 oc2 kV2 dc2 pm2 ct2 oc3 kV3 dc3 pm3 ct3 oc4 kV4 dc4 pm4 ct4 oc5 kV5 dc5 pm5 ct5 oc6 kV6 dc6 pm6 ct6 oc7 kV7 dc7 pm7 ct7 oc8 kV8 dc8 pm8 ct8 oc9 kV9 dc9 pm9 ct9 oc10 kV10 dc10 pm10 ct10 oc11 kV11 dc11 pm11 ct11 oc12 kV12 dc12 pm12 ct12 oc13 kV13 dc13 pm13 ct13 oc14 kV14 dc14 pm14 ct14 oc15 kV15 dc15 pm15 ct15 oc16 kV16 dc16 pm16 ct16 oc17 kV17 dc17 pm17 ct17 oc18 kV18 dc18 pm18 ct18 oc19 kV19 dc19 pm19 ct19 oc20 kV20 dc20 pm20 ct20 oc21 kV21 dc21 pm21 ct21 oc22 kV22 dc22 pm22 ct22 oc23 kV23 dc23 pm23 ct23 oc24 kV24 dc24 pm24 ct24 oc25 kV25 dc25 pm25 ct25 oc26 kV26 dc26 pm26 ct26 oc27 kV27 dc27 pm27 ct27 oc28 kV28 dc28 pm28 ct28 oc29 kV29 dc29 pm29 ct29 oc30 kV30 dc30 pm30 ct30 cd0 cd2 cd3 cd4 cd5 cd6 cd7 cd8 cd9 cd10 cd11 cd12 cd13 cd14 cd15 cd16 cd17 cd18 cd19 cd20 cd21 cd22 cd23 cd24 cd25 cd26 cd27 cd28 cd30 ck1 : Value} {od0 an0 od1 an1 od2 an2 od3 an3 od4 an4 od5 an5 od6 an6 od7 an7 od8 an8 od9 an9 od10 an10 od11 an11 od12 an12 od13 an13 od14 an14 od15 an15 od16 an16 od17 an17 od18 an18 od19 an19 od20 an20 od21 an21 od22 an22 od23 an23 od24 an24 od25 an25 od26 an26 od27 an27 od28 an28 od29 an29 od30 an30 cx1 : Option Addr} {sl0 sl1 sl2 sl3 sl4 sl5 sl6 sl7 sl8 sl9 sl10 sl11 sl12 sl13 sl14 sl15 sl16 sl17 sl18 sl19 sl20 sl21 sl22 sl23 sl24 sl25 sl26 sl27 sl28 sl29 sl30 cy1 : Array (Option Value)} {vs1 : Array Value} {d1 : DefRec}
    {xt0 : Tok} {xt1 : Tok} {xt2 : Tok}
    (xm0 : PySem.W.nsIn K mainGlobals "LETTERS" = some (some (.str "abcdefghijklmnopqrstuvwxyz" xt0)))
    (xm1 : PySem.W.nsIn K mainGlobals "SIGNS" = some (some (.str "abcdefghijklmnopqrstuvwxyz0123456789" xt1)))
    (xm2 : PySem.W.nsIn K mainGlobals "MOST_SIGNS" = some (some (.int (6) xt2)))
    (a0 : PySem.W.nsIn K mainGlobals "is_integer" = some (some (.ref f0))) (l0 : K.lookup f0 = some ⟨oc0, od0, .func (PySem.W.fnOf "is_integer" "is_integer" (L2.defArgs (top 4)) (L2.defBody (top 4)) (L2.defScope (top 4)) .none kV0 dc0 pm0 an0 cd0 ct0), sl0⟩) (o0 : PySem.W.codeIn K cd0 "is_integer" = true) (k0 : PySem.W.keepIn K (.ref f0) = true)
    (a1 : PySem.W.nsIn K mainGlobals "is_word" = some (some (.ref f1))) (l1 : K.lookup f1 = some ⟨oc1, od1, .func (PySem.W.fnOf "is_word" "is_word" (L2.defArgs (top 5)) (L2.defBody (top 5)) (L2.defScope (top 5)) .none kV1 dc1 pm1 an1 (.ref e1) ct1), sl1⟩) (o1 : PySem.W.codeIn K (.ref e1) "is_word" = true) (k1 : PySem.W.keepIn K (.ref f1) = true)
    (w1 : K.lookup e1 = some ⟨ck1, cx1, .fields vs1, cy1⟩) (p1 : (vs1[11]? : Option Value) = some (.ref t1)) (v1 : K.lookup t1 = none) (r1 : (PyProof.Rows.recsOf q).find? (fun e => e.name == ("is_word" : Str)) = some d1)
    (a2 : PySem.W.nsIn K mainGlobals "is_name" = some (some (.ref f2))) (l2 : K.lookup f2 = some ⟨oc2, od2, .func (PySem.W.fnOf "is_name" "is_name" (L2.defArgs (top 6)) (L2.defBody (top 6)) (L2.defScope (top 6)) .none kV2 dc2 pm2 an2 cd2 ct2), sl2⟩) (o2 : PySem.W.codeIn K cd2 "is_name" = true) (k2 : PySem.W.keepIn K (.ref f2) = true)
    (a3 : PySem.W.nsIn K mainGlobals "is_pointer_name" = some (some (.ref f3))) (l3 : K.lookup f3 = some ⟨oc3, od3, .func (PySem.W.fnOf "is_pointer_name" "is_pointer_name" (L2.defArgs (top 7)) (L2.defBody (top 7)) (L2.defScope (top 7)) .none kV3 dc3 pm3 an3 cd3 ct3), sl3⟩) (o3 : PySem.W.codeIn K cd3 "is_pointer_name" = true) (k3 : PySem.W.keepIn K (.ref f3) = true)
    (a4 : PySem.W.nsIn K mainGlobals "is_number_name" = some (some (.ref f4))) (l4 : K.lookup f4 = some ⟨oc4, od4, .func (PySem.W.fnOf "is_number_name" "is_number_name" (L2.defArgs (top 8)) (L2.defBody (top 8)) (L2.defScope (top 8)) .none kV4 dc4 pm4 an4 cd4 ct4), sl4⟩) (o4 : PySem.W.codeIn K cd4 "is_number_name" = true) (k4 : PySem.W.keepIn K (.ref f4) = true)
    (a5 : PySem.W.nsIn K mainGlobals "is_hidden" = some (some (.ref f5))) (l5 : K.lookup f5 = some ⟨oc5, od5, .func (PySem.W.fnOf "is_hidden" "is_hidden" (L2.defArgs (top 9)) (L2.defBody (top 9)) (L2.defScope (top 9)) .none kV5 dc5 pm5 an5 cd5 ct5), sl5⟩) (o5 : PySem.W.codeIn K cd5 "is_hidden" = true) (k5 : PySem.W.keepIn K (.ref f5) = true)
    (a6 : PySem.W.nsIn K mainGlobals "is_free" = some (some (.ref f6))) (l6 : K.lookup f6 = some ⟨oc6, od6, .func (PySem.W.fnOf "is_free" "is_free" (L2.defArgs (top 10)) (L2.defBody (top 10)) (L2.defScope (top 10)) .none kV6 dc6 pm6 an6 cd6 ct6), sl6⟩) (o6 : PySem.W.codeIn K cd6 "is_free" = true) (k6 : PySem.W.keepIn K (.ref f6) = true)
    (a7 : PySem.W.nsIn K mainGlobals "is_pointer_term" = some (some (.ref f7))) (l7 : K.lookup f7 = some ⟨oc7, od7, .func (PySem.W.fnOf "is_pointer_term" "is_pointer_term" (L2.defArgs (top 11)) (L2.defBody (top 11)) (L2.defScope (top 11)) .none kV7 dc7 pm7 an7 cd7 ct7), sl7⟩) (o7 : PySem.W.codeIn K cd7 "is_pointer_term" = true) (k7 : PySem.W.keepIn K (.ref f7) = true)
    (a8 : PySem.W.nsIn K mainGlobals "is_number_term" = some (some (.ref f8))) (l8 : K.lookup f8 = some ⟨oc8, od8, .func (PySem.W.fnOf "is_number_term" "is_number_term" (L2.defArgs (top 12)) (L2.defBody (top 12)) (L2.defScope (top 12)) .none kV8 dc8 pm8 an8 cd8 ct8), sl8⟩) (o8 : PySem.W.codeIn K cd8 "is_number_term" = true) (k8 : PySem.W.keepIn K (.ref f8) = true)
    (a9 : PySem.W.nsIn K mainGlobals "term_order" = some (some (.ref f9))) (l9 : K.lookup f9 = some ⟨oc9, od9, .func (PySem.W.fnOf "term_order" "term_order" (L2.defArgs (top 13)) (L2.defBody (top 13)) (L2.defScope (top 13)) .none kV9 dc9 pm9 an9 cd9 ct9), sl9⟩) (o9 : PySem.W.codeIn K cd9 "term_order" = true) (k9 : PySem.W.keepIn K (.ref f9) = true)
    (a10 : PySem.W.nsIn K mainGlobals "added_number" = some (some (.ref f10))) (l10 : K.lookup f10 = some ⟨oc10, od10, .func (PySem.W.fnOf "added_number" "added_number" (L2.defArgs (top 14)) (L2.defBody (top 14)) (L2.defScope (top 14)) .none kV10 dc10 pm10 an10 cd10 ct10), sl10⟩) (o10 : PySem.W.codeIn K cd10 "added_number" = true) (k10 : PySem.W.keepIn K (.ref f10) = true)
    (a11 : PySem.W.nsIn K mainGlobals "name_in" = some (some (.ref f11))) (l11 : K.lookup f11 = some ⟨oc11, od11, .func (PySem.W.fnOf "name_in" "name_in" (L2.defArgs (top 15)) (L2.defBody (top 15)) (L2.defScope (top 15)) .none kV11 dc11 pm11 an11 cd11 ct11), sl11⟩) (o11 : PySem.W.codeIn K cd11 "name_in" = true) (k11 : PySem.W.keepIn K (.ref f11) = true)
    (a12 : PySem.W.nsIn K mainGlobals "put_term" = some (some (.ref f12))) (l12 : K.lookup f12 = some ⟨oc12, od12, .func (PySem.W.fnOf "put_term" "put_term" (L2.defArgs (top 16)) (L2.defBody (top 16)) (L2.defScope (top 16)) .none kV12 dc12 pm12 an12 cd12 ct12), sl12⟩) (o12 : PySem.W.codeIn K cd12 "put_term" = true) (k12 : PySem.W.keepIn K (.ref f12) = true)
    (a13 : PySem.W.nsIn K mainGlobals "fresh" = some (some (.ref f13))) (l13 : K.lookup f13 = some ⟨oc13, od13, .func (PySem.W.fnOf "fresh" "fresh" (L2.defArgs (top 17)) (L2.defBody (top 17)) (L2.defScope (top 17)) .none kV13 dc13 pm13 an13 cd13 ct13), sl13⟩) (o13 : PySem.W.codeIn K cd13 "fresh" = true) (k13 : PySem.W.keepIn K (.ref f13) = true)
    (a14 : PySem.W.nsIn K mainGlobals "fresh_names" = some (some (.ref f14))) (l14 : K.lookup f14 = some ⟨oc14, od14, .func (PySem.W.fnOf "fresh_names" "fresh_names" (L2.defArgs (top 18)) (L2.defBody (top 18)) (L2.defScope (top 18)) .none kV14 dc14 pm14 an14 cd14 ct14), sl14⟩) (o14 : PySem.W.codeIn K cd14 "fresh_names" = true) (k14 : PySem.W.keepIn K (.ref f14) = true)
    (a15 : PySem.W.nsIn K mainGlobals "_law_box" = some (some (.ref f15))) (l15 : K.lookup f15 = some ⟨oc15, od15, .func (PySem.W.fnOf "_law_box" "_law_box" (L2.defArgs (top 25)) (L2.defBody (top 25)) (L2.defScope (top 25)) .none kV15 dc15 pm15 an15 cd15 ct15), sl15⟩) (o15 : PySem.W.codeIn K cd15 "_law_box" = true) (k15 : PySem.W.keepIn K (.ref f15) = true)
    (a16 : PySem.W.nsIn K mainGlobals "_law_load" = some (some (.ref f16))) (l16 : K.lookup f16 = some ⟨oc16, od16, .func (PySem.W.fnOf "_law_load" "_law_load" (L2.defArgs (top 26)) (L2.defBody (top 26)) (L2.defScope (top 26)) .none kV16 dc16 pm16 an16 cd16 ct16), sl16⟩) (o16 : PySem.W.codeIn K cd16 "_law_load" = true) (k16 : PySem.W.keepIn K (.ref f16) = true)
    (a17 : PySem.W.nsIn K mainGlobals "_law_draw" = some (some (.ref f17))) (l17 : K.lookup f17 = some ⟨oc17, od17, .func (PySem.W.fnOf "_law_draw" "_law_draw" (L2.defArgs (top 27)) (L2.defBody (top 27)) (L2.defScope (top 27)) .none kV17 dc17 pm17 an17 cd17 ct17), sl17⟩) (o17 : PySem.W.codeIn K cd17 "_law_draw" = true) (k17 : PySem.W.keepIn K (.ref f17) = true)
    (a18 : PySem.W.nsIn K mainGlobals "_law_same" = some (some (.ref f18))) (l18 : K.lookup f18 = some ⟨oc18, od18, .func (PySem.W.fnOf "_law_same" "_law_same" (L2.defArgs (top 28)) (L2.defBody (top 28)) (L2.defScope (top 28)) .none kV18 dc18 pm18 an18 cd18 ct18), sl18⟩) (o18 : PySem.W.codeIn K cd18 "_law_same" = true) (k18 : PySem.W.keepIn K (.ref f18) = true)
    (a19 : PySem.W.nsIn K mainGlobals "_law_spoilt" = some (some (.ref f19))) (l19 : K.lookup f19 = some ⟨oc19, od19, .func (PySem.W.fnOf "_law_spoilt" "_law_spoilt" (L2.defArgs (top 29)) (L2.defBody (top 29)) (L2.defScope (top 29)) .none kV19 dc19 pm19 an19 cd19 ct19), sl19⟩) (o19 : PySem.W.codeIn K cd19 "_law_spoilt" = true) (k19 : PySem.W.keepIn K (.ref f19) = true)
    (a20 : PySem.W.nsIn K mainGlobals "_law_word" = some (some (.ref f20))) (l20 : K.lookup f20 = some ⟨oc20, od20, .func (PySem.W.fnOf "_law_word" "_law_word" (L2.defArgs (top 30)) (L2.defBody (top 30)) (L2.defScope (top 30)) .none kV20 dc20 pm20 an20 cd20 ct20), sl20⟩) (o20 : PySem.W.codeIn K cd20 "_law_word" = true) (k20 : PySem.W.keepIn K (.ref f20) = true)
    (a21 : PySem.W.nsIn K mainGlobals "_law_name" = some (some (.ref f21))) (l21 : K.lookup f21 = some ⟨oc21, od21, .func (PySem.W.fnOf "_law_name" "_law_name" (L2.defArgs (top 31)) (L2.defBody (top 31)) (L2.defScope (top 31)) .none kV21 dc21 pm21 an21 cd21 ct21), sl21⟩) (o21 : PySem.W.codeIn K cd21 "_law_name" = true) (k21 : PySem.W.keepIn K (.ref f21) = true)
    (a22 : PySem.W.nsIn K mainGlobals "_law_is_word" = some (some (.ref f22))) (l22 : K.lookup f22 = some ⟨oc22, od22, .func (PySem.W.fnOf "_law_is_word" "_law_is_word" (L2.defArgs (top 32)) (L2.defBody (top 32)) (L2.defScope (top 32)) .none kV22 dc22 pm22 an22 cd22 ct22), sl22⟩) (o22 : PySem.W.codeIn K cd22 "_law_is_word" = true) (k22 : PySem.W.keepIn K (.ref f22) = true)
    (a23 : PySem.W.nsIn K mainGlobals "_law_is_name" = some (some (.ref f23))) (l23 : K.lookup f23 = some ⟨oc23, od23, .func (PySem.W.fnOf "_law_is_name" "_law_is_name" (L2.defArgs (top 33)) (L2.defBody (top 33)) (L2.defScope (top 33)) .none kV23 dc23 pm23 an23 cd23 ct23), sl23⟩) (o23 : PySem.W.codeIn K cd23 "_law_is_name" = true) (k23 : PySem.W.keepIn K (.ref f23) = true)
    (a24 : PySem.W.nsIn K mainGlobals "_law_is_int" = some (some (.ref f24))) (l24 : K.lookup f24 = some ⟨oc24, od24, .func (PySem.W.fnOf "_law_is_int" "_law_is_int" (L2.defArgs (top 34)) (L2.defBody (top 34)) (L2.defScope (top 34)) .none kV24 dc24 pm24 an24 cd24 ct24), sl24⟩) (o24 : PySem.W.codeIn K cd24 "_law_is_int" = true) (k24 : PySem.W.keepIn K (.ref f24) = true)
    (a25 : PySem.W.nsIn K mainGlobals "_law_is_number_term" = some (some (.ref f25))) (l25 : K.lookup f25 = some ⟨oc25, od25, .func (PySem.W.fnOf "_law_is_number_term" "_law_is_number_term" (L2.defArgs (top 35)) (L2.defBody (top 35)) (L2.defScope (top 35)) .none kV25 dc25 pm25 an25 cd25 ct25), sl25⟩) (o25 : PySem.W.codeIn K cd25 "_law_is_number_term" = true) (k25 : PySem.W.keepIn K (.ref f25) = true)
    (a26 : PySem.W.nsIn K mainGlobals "_law_term" = some (some (.ref f26))) (l26 : K.lookup f26 = some ⟨oc26, od26, .func (PySem.W.fnOf "_law_term" "_law_term" (L2.defArgs (top 36)) (L2.defBody (top 36)) (L2.defScope (top 36)) .none kV26 dc26 pm26 an26 cd26 ct26), sl26⟩) (o26 : PySem.W.codeIn K cd26 "_law_term" = true) (k26 : PySem.W.keepIn K (.ref f26) = true)
    (a27 : PySem.W.nsIn K mainGlobals "_law_key" = some (some (.ref f27))) (l27 : K.lookup f27 = some ⟨oc27, od27, .func (PySem.W.fnOf "_law_key" "_law_key" (L2.defArgs (top 37)) (L2.defBody (top 37)) (L2.defScope (top 37)) .none kV27 dc27 pm27 an27 cd27 ct27), sl27⟩) (o27 : PySem.W.codeIn K cd27 "_law_key" = true) (k27 : PySem.W.keepIn K (.ref f27) = true)
    (a28 : PySem.W.nsIn K mainGlobals "_law_judged" = some (some (.ref f28))) (l28 : K.lookup f28 = some ⟨oc28, od28, .func (PySem.W.fnOf "_law_judged" "_law_judged" (L2.defArgs (top 38)) (L2.defBody (top 38)) (L2.defScope (top 38)) .none kV28 dc28 pm28 an28 cd28 ct28), sl28⟩) (o28 : PySem.W.codeIn K cd28 "_law_judged" = true) (k28 : PySem.W.keepIn K (.ref f28) = true)
    (a29 : PySem.W.nsIn K mainGlobals "_law_errors" = some (some (.ref 276))) (l29 : K.lookup 276 = some ⟨oc29, od29, .func (PySem.W.fnOf "_law_errors" "_law_errors" (L2.defArgs (top 39)) (L2.defBody (top 39)) (L2.defScope (top 39)) .none kV29 dc29 pm29 an29 (.ref 275) ct29), sl29⟩) (o29 : PySem.W.codeIn K (.ref 275) "_law_errors" = true) (k29 : PySem.W.keepIn K (.ref 276) = true)
    (a30 : PySem.W.nsIn K mainGlobals "law" = some (some (.ref f30))) (l30 : K.lookup f30 = some ⟨oc30, od30, .func (PySem.W.fnOf "law" "law" (L2.defArgs (top 40)) (L2.defBody (top 40)) (L2.defScope (top 40)) .none kV30 dc30 pm30 an30 cd30 ct30), sl30⟩) (o30 : PySem.W.codeIn K cd30 "law" = true) (k30 : PySem.W.keepIn K (.ref f30) = true)
    (ns : PySem.W.nsOkIn K cStatics = true) (nd : PySem.W.nsIn K cStatics "sys.int_max_str_digits" = some none) (SE : ∀ p loose mean mg mb, E00.ErrC PySem.Challenge.pw_heapsparted_k00_names_and_terms w K p loose mean mg mb 276 "_law_errors" (L2.defBody (E00.tops 39)) (L2.defScope (E00.tops 39)) (.ref 275))
    (z0 : PySem.W.nsIn K mainGlobals "all" = some none)
    (z1 : PySem.W.nsIn K mainGlobals "bool" = some none)
    (z2 : PySem.W.nsIn K mainGlobals "dict" = some none)
    (z3 : PySem.W.nsIn K mainGlobals "int" = some none)
    (z4 : PySem.W.nsIn K mainGlobals "isinstance" = some none)
    (z5 : PySem.W.nsIn K mainGlobals "len" = some none)
    (z6 : PySem.W.nsIn K mainGlobals "list" = some none)
    (z7 : PySem.W.nsIn K mainGlobals "range" = some none)
    (z8 : PySem.W.nsIn K mainGlobals "sorted" = some none)
    (z9 : PySem.W.nsIn K mainGlobals "str" = some none)
    (z10 : PySem.W.nsIn K mainGlobals "tuple" = some none)
    : LamX.LawAtS PySem.Challenge.rw_heapsparted_k00_names_and_terms w K L2.CX0 120 63 "script" mg fa h := by
  have hl := hfa.symm.trans (PySem.W.mg_of X G a30)
  cases hl
  have u1 : PySem.W.tabIn K "is_word" = some (e1, t1) := by
    unfold PySem.W.tabIn
    simp only [a1, l1, PySem.W.fnOf, w1, p1]
  obtain ⟨q1, y1⟩ := PySem.W.tab_of T X r1 u1
  let Tb : Addr → Prop := fun p => p = t1
  have TT : ∀ base : Heap, K.In base → base.Ns mainGlobals mg → (∀ p ∈ ([(e1, t1)] : List (Addr × Addr)), LamX.TabB base mg p.1 p.2) → TOk PySem.Challenge.pw_heapsparted_k00_names_and_terms w K Tb mg base dat gtT fds := by
    intro base XB GB TB
    have g1 : GxR.TabB base mg e1 t1 := let q := TB (e1, t1) (by simp); ⟨q.code, q.bm, q.gP⟩
    refine ⟨fun x i ar hx => ?_, fun x i hx => ?_, fun x hx => ?_⟩
    · have hm := PySem.mem_of_lookup hx
      unfold gtT at hm
      simp only [List.mem_cons, List.not_mem_nil, Prod.mk.injEq, Gv.fn.injEq, reduceCtorEq, and_false, or_false, false_or] at hm
      rcases hm with ⟨rfl, rfl, rfl⟩ | ⟨rfl, rfl, rfl⟩ | ⟨rfl, rfl, rfl⟩ | ⟨rfl, rfl, rfl⟩ | ⟨rfl, rfl, rfl⟩ | ⟨rfl, rfl, rfl⟩ | ⟨rfl, rfl, rfl⟩ | ⟨rfl, rfl, rfl⟩ | ⟨rfl, rfl, rfl⟩ | ⟨rfl, rfl, rfl⟩ | ⟨rfl, rfl, rfl⟩ | ⟨rfl, rfl, rfl⟩ | ⟨rfl, rfl, rfl⟩ | ⟨rfl, rfl, rfl⟩ | ⟨rfl, rfl, rfl⟩ | ⟨rfl, rfl, rfl⟩ | ⟨rfl, rfl, rfl⟩ | ⟨rfl, rfl, rfl⟩ | ⟨rfl, rfl, rfl⟩ | ⟨rfl, rfl, rfl⟩ | ⟨rfl, rfl, rfl⟩ | ⟨rfl, rfl, rfl⟩ | ⟨rfl, rfl, rfl⟩ | ⟨rfl, rfl, rfl⟩ | ⟨rfl, rfl, rfl⟩ | ⟨rfl, rfl, rfl⟩ | ⟨rfl, rfl, rfl⟩ | ⟨rfl, rfl, rfl⟩ | ⟨rfl, rfl, rfl⟩ | ⟨rfl, rfl, rfl⟩ | ⟨rfl, rfl, rfl⟩
      · exact .inl ⟨⟨top 4, n0, false, 0, [], ⟨1, 1, b0⟩, f0, _, _, oc0, kV0, dc0, pm0, cd0, ct0, od0, an0, sl0, c0, rfl, by decide, PySem.W.mg_of X G a0, k0, l0, o0, fun q => absurd q (by decide),
          (L2.fun_mk l0 o0 k0).binds (ps := n0.take 1) fun _ _ _ _ _ _ us hl => match us, hl with | [_], _ => rfl⟩⟩
      · exact .inl ⟨⟨top 5, n1, false, 2, [], ⟨1, 2, b1⟩, f1, _, _, oc1, kV1, dc1, pm1, (.ref e1), ct1, od1, an1, sl1, c1, rfl, by decide, PySem.W.mg_of X G a1, k1, l1, o1, fun _ => ⟨e1, t1, rfl, g1, rfl⟩,
          (L2.fun_mk l1 o1 k1).binds (ps := n1.take 1) fun _ _ _ _ _ _ us hl => match us, hl with | [_], _ => rfl⟩⟩
      · exact .inl ⟨⟨top 6, n2, false, 0, [], ⟨1, 2, b2⟩, f2, _, _, oc2, kV2, dc2, pm2, cd2, ct2, od2, an2, sl2, c2, rfl, by decide, PySem.W.mg_of X G a2, k2, l2, o2, fun q => absurd q (by decide),
          (L2.fun_mk l2 o2 k2).binds (ps := n2.take 1) fun _ _ _ _ _ _ us hl => match us, hl with | [_], _ => rfl⟩⟩
      · exact .inl ⟨⟨top 7, n3, false, 0, [], ⟨1, 1, b3⟩, f3, _, _, oc3, kV3, dc3, pm3, cd3, ct3, od3, an3, sl3, c3, rfl, by decide, PySem.W.mg_of X G a3, k3, l3, o3, fun q => absurd q (by decide),
          (L2.fun_mk l3 o3 k3).binds (ps := n3.take 1) fun _ _ _ _ _ _ us hl => match us, hl with | [_], _ => rfl⟩⟩
      · exact .inl ⟨⟨top 8, n4, false, 0, [], ⟨1, 1, b4⟩, f4, _, _, oc4, kV4, dc4, pm4, cd4, ct4, od4, an4, sl4, c4, rfl, by decide, PySem.W.mg_of X G a4, k4, l4, o4, fun q => absurd q (by decide),
          (L2.fun_mk l4 o4 k4).binds (ps := n4.take 1) fun _ _ _ _ _ _ us hl => match us, hl with | [_], _ => rfl⟩⟩
      · exact .inl ⟨⟨top 9, n5, false, 0, [], ⟨1, 1, b5⟩, f5, _, _, oc5, kV5, dc5, pm5, cd5, ct5, od5, an5, sl5, c5, rfl, by decide, PySem.W.mg_of X G a5, k5, l5, o5, fun q => absurd q (by decide),
          (L2.fun_mk l5 o5 k5).binds (ps := n5.take 1) fun _ _ _ _ _ _ us hl => match us, hl with | [_], _ => rfl⟩⟩
      · exact .inl ⟨⟨top 10, n6, false, 0, [], ⟨1, 1, b6⟩, f6, _, _, oc6, kV6, dc6, pm6, cd6, ct6, od6, an6, sl6, c6, rfl, by decide, PySem.W.mg_of X G a6, k6, l6, o6, fun q => absurd q (by decide),
          (L2.fun_mk l6 o6 k6).binds (ps := n6.take 1) fun _ _ _ _ _ _ us hl => match us, hl with | [_], _ => rfl⟩⟩
      · exact .inl ⟨⟨top 11, n7, false, 0, [], ⟨1, 1, b7⟩, f7, _, _, oc7, kV7, dc7, pm7, cd7, ct7, od7, an7, sl7, c7, rfl, by decide, PySem.W.mg_of X G a7, k7, l7, o7, fun q => absurd q (by decide),
          (L2.fun_mk l7 o7 k7).binds (ps := n7.take 1) fun _ _ _ _ _ _ us hl => match us, hl with | [_], _ => rfl⟩⟩
      · exact .inl ⟨⟨top 12, n8, false, 0, [], ⟨1, 1, b8⟩, f8, _, _, oc8, kV8, dc8, pm8, cd8, ct8, od8, an8, sl8, c8, rfl, by decide, PySem.W.mg_of X G a8, k8, l8, o8, fun q => absurd q (by decide),
          (L2.fun_mk l8 o8 k8).binds (ps := n8.take 1) fun _ _ _ _ _ _ us hl => match us, hl with | [_], _ => rfl⟩⟩
      · exact .inl ⟨⟨top 13, n9, false, 0, [], ⟨1, 1, b9⟩, f9, _, _, oc9, kV9, dc9, pm9, cd9, ct9, od9, an9, sl9, c9, rfl, by decide, PySem.W.mg_of X G a9, k9, l9, o9, fun q => absurd q (by decide),
          (L2.fun_mk l9 o9 k9).binds (ps := n9.take 1) fun _ _ _ _ _ _ us hl => match us, hl with | [_], _ => rfl⟩⟩
      · exact .inl ⟨⟨top 14, n10, false, 0, [], ⟨2, 4, b10⟩, f10, _, _, oc10, kV10, dc10, pm10, cd10, ct10, od10, an10, sl10, c10, rfl, by decide, PySem.W.mg_of X G a10, k10, l10, o10, fun q => absurd q (by decide),
          (L2.fun_mk l10 o10 k10).binds (ps := n10.take 2) fun _ _ _ _ _ _ us hl => match us, hl with | [_, _], _ => rfl⟩⟩
      · exact .inl ⟨⟨top 15, n11, false, 0, [], ⟨1, 1, b11⟩, f11, _, _, oc11, kV11, dc11, pm11, cd11, ct11, od11, an11, sl11, c11, rfl, by decide, PySem.W.mg_of X G a11, k11, l11, o11, fun q => absurd q (by decide),
          (L2.fun_mk l11 o11 k11).binds (ps := n11.take 1) fun _ _ _ _ _ _ us hl => match us, hl with | [_], _ => rfl⟩⟩
      · exact .inl ⟨⟨top 16, n12, false, 0, [], ⟨2, 3, b12⟩, f12, _, _, oc12, kV12, dc12, pm12, cd12, ct12, od12, an12, sl12, c12, rfl, by decide, PySem.W.mg_of X G a12, k12, l12, o12, fun q => absurd q (by decide),
          (L2.fun_mk l12 o12 k12).binds (ps := n12.take 2) fun _ _ _ _ _ _ us hl => match us, hl with | [_, _], _ => rfl⟩⟩
      · exact .inl ⟨⟨top 17, n13, false, 0, [], ⟨2, 4, b13⟩, f13, _, _, oc13, kV13, dc13, pm13, cd13, ct13, od13, an13, sl13, c13, rfl, by decide, PySem.W.mg_of X G a13, k13, l13, o13, fun q => absurd q (by decide),
          (L2.fun_mk l13 o13 k13).binds (ps := n13.take 2) fun _ _ _ _ _ _ us hl => match us, hl with | [_, _], _ => rfl⟩⟩
      · exact .inl ⟨⟨top 18, n14, false, 0, ["found"], ⟨3, 5, b14⟩, f14, _, _, oc14, kV14, dc14, pm14, cd14, ct14, od14, an14, sl14, c14, rfl, by decide, PySem.W.mg_of X G a14, k14, l14, o14, fun q => absurd q (by decide),
          (L2.fun_mk l14 o14 k14).binds (ps := n14.take 3) fun _ _ _ _ _ _ us hl => match us, hl with | [_, _, _], _ => rfl⟩⟩
      · exact .inl ⟨⟨top 25, n15, true, 0, [], ⟨1, 1, b15⟩, f15, _, _, oc15, kV15, dc15, pm15, cd15, ct15, od15, an15, sl15, c15, rfl, by decide, PySem.W.mg_of X G a15, k15, l15, o15, fun q => absurd q (by decide),
          (L2.fun_mk l15 o15 k15).binds (ps := n15.take 1) fun _ _ _ _ _ _ us hl => match us, hl with | [_], _ => rfl⟩⟩
      · exact .inl ⟨⟨top 26, n16, false, 0, [], ⟨1, 6, b16⟩, f16, _, _, oc16, kV16, dc16, pm16, cd16, ct16, od16, an16, sl16, c16, rfl, by decide, PySem.W.mg_of X G a16, k16, l16, o16, fun q => absurd q (by decide),
          (L2.fun_mk l16 o16 k16).binds (ps := n16.take 1) fun _ _ _ _ _ _ us hl => match us, hl with | [_], _ => rfl⟩⟩
      · exact .inl ⟨⟨top 27, n17, false, 0, [], ⟨2, 3, b17⟩, f17, _, _, oc17, kV17, dc17, pm17, cd17, ct17, od17, an17, sl17, c17, rfl, by decide, PySem.W.mg_of X G a17, k17, l17, o17, fun q => absurd q (by decide),
          (L2.fun_mk l17 o17 k17).binds (ps := n17.take 2) fun _ _ _ _ _ _ us hl => match us, hl with | [_, _], _ => rfl⟩⟩
      · exact .inl ⟨⟨top 28, n18, false, 0, [], ⟨2, 3, b18⟩, f18, _, _, oc18, kV18, dc18, pm18, cd18, ct18, od18, an18, sl18, c18, rfl, by decide, PySem.W.mg_of X G a18, k18, l18, o18, fun q => absurd q (by decide),
          (L2.fun_mk l18 o18 k18).binds (ps := n18.take 2) fun _ _ _ _ _ _ us hl => match us, hl with | [_, _], _ => rfl⟩⟩
      · exact .inl ⟨⟨top 29, n19, false, 0, [], ⟨2, 4, b19⟩, f19, _, _, oc19, kV19, dc19, pm19, cd19, ct19, od19, an19, sl19, c19, rfl, by decide, PySem.W.mg_of X G a19, k19, l19, o19, fun q => absurd q (by decide),
          (L2.fun_mk l19 o19 k19).binds (ps := n19.take 2) fun _ _ _ _ _ _ us hl => match us, hl with | [_, _], _ => rfl⟩⟩
      · exact .inl ⟨⟨top 30, n20, false, 0, [], ⟨1, 1, b20⟩, f20, _, _, oc20, kV20, dc20, pm20, cd20, ct20, od20, an20, sl20, c20, rfl, by decide, PySem.W.mg_of X G a20, k20, l20, o20, fun q => absurd q (by decide),
          (L2.fun_mk l20 o20 k20).binds (ps := n20.take 1) fun _ _ _ _ _ _ us hl => match us, hl with | [_], _ => rfl⟩⟩
      · exact .inl ⟨⟨top 31, n21, false, 0, [], ⟨2, 2, b21⟩, f21, _, _, oc21, kV21, dc21, pm21, cd21, ct21, od21, an21, sl21, c21, rfl, by decide, PySem.W.mg_of X G a21, k21, l21, o21, fun q => absurd q (by decide),
          (L2.fun_mk l21 o21 k21).binds (ps := n21.take 2) fun _ _ _ _ _ _ us hl => match us, hl with | [_, _], _ => rfl⟩⟩
      · exact .inl ⟨⟨top 32, n22, false, 0, [], ⟨1, 3, b22⟩, f22, _, _, oc22, kV22, dc22, pm22, cd22, ct22, od22, an22, sl22, c22, rfl, by decide, PySem.W.mg_of X G a22, k22, l22, o22, fun q => absurd q (by decide),
          (L2.fun_mk l22 o22 k22).binds (ps := n22.take 1) fun _ _ _ _ _ _ us hl => match us, hl with | [_], _ => rfl⟩⟩
      · exact .inl ⟨⟨top 33, n23, false, 0, [], ⟨1, 2, b23⟩, f23, _, _, oc23, kV23, dc23, pm23, cd23, ct23, od23, an23, sl23, c23, rfl, by decide, PySem.W.mg_of X G a23, k23, l23, o23, fun q => absurd q (by decide),
          (L2.fun_mk l23 o23 k23).binds (ps := n23.take 1) fun _ _ _ _ _ _ us hl => match us, hl with | [_], _ => rfl⟩⟩
      · exact .inl ⟨⟨top 34, n24, false, 0, [], ⟨1, 1, b24⟩, f24, _, _, oc24, kV24, dc24, pm24, cd24, ct24, od24, an24, sl24, c24, rfl, by decide, PySem.W.mg_of X G a24, k24, l24, o24, fun q => absurd q (by decide),
          (L2.fun_mk l24 o24 k24).binds (ps := n24.take 1) fun _ _ _ _ _ _ us hl => match us, hl with | [_], _ => rfl⟩⟩
      · exact .inl ⟨⟨top 35, n25, false, 0, [], ⟨1, 1, b25⟩, f25, _, _, oc25, kV25, dc25, pm25, cd25, ct25, od25, an25, sl25, c25, rfl, by decide, PySem.W.mg_of X G a25, k25, l25, o25, fun q => absurd q (by decide),
          (L2.fun_mk l25 o25 k25).binds (ps := n25.take 1) fun _ _ _ _ _ _ us hl => match us, hl with | [_], _ => rfl⟩⟩
      · exact .inl ⟨⟨top 36, n26, false, 0, [], ⟨1, 1, b26⟩, f26, _, _, oc26, kV26, dc26, pm26, cd26, ct26, od26, an26, sl26, c26, rfl, by decide, PySem.W.mg_of X G a26, k26, l26, o26, fun q => absurd q (by decide),
          (L2.fun_mk l26 o26 k26).binds (ps := n26.take 1) fun _ _ _ _ _ _ us hl => match us, hl with | [_], _ => rfl⟩⟩
      · exact .inl ⟨⟨top 37, n27, false, 0, [], ⟨1, 1, b27⟩, f27, _, _, oc27, kV27, dc27, pm27, cd27, ct27, od27, an27, sl27, c27, rfl, by decide, PySem.W.mg_of X G a27, k27, l27, o27, fun q => absurd q (by decide),
          (L2.fun_mk l27 o27 k27).binds (ps := n27.take 1) fun _ _ _ _ _ _ us hl => match us, hl with | [_], _ => rfl⟩⟩
      · exact .inl ⟨⟨top 38, n28, false, 0, [], ⟨1, 6, b28⟩, f28, _, _, oc28, kV28, dc28, pm28, cd28, ct28, od28, an28, sl28, c28, rfl, by decide, PySem.W.mg_of X G a28, k28, l28, o28, fun q => absurd q (by decide),
          (L2.fun_mk l28 o28 k28).binds (ps := n28.take 1) fun _ _ _ _ _ _ us hl => match us, hl with | [_], _ => rfl⟩⟩
      · exact .inr (E00.errs_vok (PySem.W.mg_of X G a29) l29 o29 k29 SE g1.bm (E00.loose_of T) ns nd rfl)
      · exact .inl ⟨⟨top 40, n30, false, 1, [], ⟨1, 18, b30⟩, fa, _, _, oc30, kV30, dc30, pm30, cd30, ct30, od30, an30, sl30, c30, rfl, by decide, PySem.W.mg_of X G a30, k30, l30, o30, fun q => absurd q (by decide),
          (L2.fun_mk l30 o30 k30).binds (ps := n30.take 1) fun _ _ _ _ _ _ us hl => match us, hl with | [_], _ => rfl⟩⟩
    · have hm := PySem.mem_of_lookup hx
      unfold gtT at hm
      simp only [List.mem_cons, List.not_mem_nil, Prod.mk.injEq, Gv.cst.injEq, reduceCtorEq, and_false, or_false, false_or] at hm
      rcases hm with ⟨rfl, rfl⟩ | ⟨rfl, rfl⟩ | ⟨rfl, rfl⟩
      · exact let z := (kd_str : KD K _ _ (dat 0)); ⟨_, _, PySem.W.mg_of X G xm0, z.1, z.2⟩
      · exact let z := (kd_str : KD K _ _ (dat 1)); ⟨_, _, PySem.W.mg_of X G xm1, z.1, z.2⟩
      · exact let z := (kd_int : KD K _ _ (dat 2)); ⟨_, _, PySem.W.mg_of X G xm2, z.1, z.2⟩
    · have hm := PySem.mem_of_lookup hx
      unfold gtT at hm
      simp only [List.mem_cons, List.not_mem_nil, Prod.mk.injEq, reduceCtorEq, and_false, or_false, false_or, and_true] at hm
      rcases hm with rfl | rfl | rfl | rfl | rfl | rfl | rfl | rfl | rfl | rfl | rfl
      · exact PySem.W.mg_none_of X G z0
      · exact PySem.W.mg_none_of X G z1
      · exact PySem.W.mg_none_of X G z2
      · exact PySem.W.mg_none_of X G z3
      · exact PySem.W.mg_none_of X G z4
      · exact PySem.W.mg_none_of X G z5
      · exact PySem.W.mg_none_of X G z6
      · exact PySem.W.mg_none_of X G z7
      · exact PySem.W.mg_none_of X G z8
      · exact PySem.W.mg_none_of X G z9
      · exact PySem.W.mg_none_of X G z10
  refine ⟨PySem.W.fnOf "law" "law" (L2.defArgs (top 40)) (L2.defBody (top 40)) (L2.defScope (top 40)) .none kV30 dc30 pm30 an30 cd30 ct30, [(e1, t1)], spOf K Tb (calls fds dat 60) 30 1, ?_, ?_, ?_, fun s u => .of_eq rfl, ?_, ?_⟩
  · intro p hp
    simp only [List.mem_cons, List.not_mem_nil, or_false] at hp
    subst hp
    exact y1
  · intro p hp
    simp only [List.mem_cons, List.not_mem_nil, or_false] at hp
    subst hp
    exact v1
  · intro p hp
    simp only [List.mem_cons, List.not_mem_nil, or_false] at hp
    subst hp
    exact q1
  · intro H a ks hlen _ hT hS
    obtain ⟨M, hM⟩ := plain ks hlen
    refine ⟨rfl, [.lst (ks.map D.int)], [], fun p => p = a ∧ ∃ o, H p = some o ∧ ¬ IsTb o, [], ?_, ⟨fun m l e => (by simp at e), rfl, List.nodup_nil, fun p hp => (by simp at hp), fun p hp => hp.2, ?_⟩, ?_⟩
    · simp only [Reps, Rep]
      refine ⟨_, [], rfl, ⟨a, _, rfl, ?_, ints_reps ks⟩, rfl⟩
      rcases hS with (z | ⟨o, z⟩) | z
      · exact .inl ⟨⟨rfl, _, z, id⟩, .inl z⟩
      · exact .inl ⟨⟨rfl, _, z, id⟩, .inr ⟨o, z⟩⟩
      · exact .inr (.inr z)
    · intro p hp
      obtain rfl : p = t1 := hp
      exact ⟨#[], hT (e1, p) (by simp), (by first | exact True.intro | exact .nil | simp [TriplesOk])⟩
    · rw [hM]
      intro v ρ' F' H' _ _ _ r
      simpa only [RepC, Rep] using r
  · intro base XB GB TB
    exact def_ok (g := ⟨PySem.Challenge.pw_heapsparted_k00_names_and_terms, w, K, Tb, mg, base, 2 * 59, calls fds dat 59, dat⟩) (i := 30) (C' := calls fds dat 60) (defs_ok (TT base XB GB TB) 59) c30 (by decide) l30 o30 (fun q => absurd q (by decide)) (fun ds M => rfl)
end K00
open PySem PySem.W PyProof.Rows
set_option maxRecDepth 100000 in
set_option maxHeartbeats 0 in
theorem PySem.Challenge.cw_heapsparted_k00_names_and_terms_holds : PySem.Challenge.rw_heapsparted_k00_names_and_terms.Holds := by
  refine E00.top ?_
  k_fill
  refine Ev.walk_g (n := 63) (k := 120) (x := "script") (CX := fun _ => L2.CX0) rfl (by decide) rfl ⟨rfl, by decide, by decide⟩ (fun w h Y => PySem.W.kIn_of Y) ?F fun _ _ _ _ _ z => z
  case F =>
    intro w s₀ mg mb fa h G Y KX hmg
    refine' K00.law_at G.T KX G.T.g hmg K00.plain_law ?xm0 ?xm1 ?xm2 ?a0 ?l0 ?o0 ?k0 ?a1 ?l1 ?o1 ?k1 ?w1 ?p1 ?v1 ?r1 ?a2 ?l2 ?o2 ?k2 ?a3 ?l3 ?o3 ?k3 ?a4 ?l4 ?o4 ?k4 ?a5 ?l5 ?o5 ?k5 ?a6 ?l6 ?o6 ?k6 ?a7 ?l7 ?o7 ?k7 ?a8 ?l8 ?o8 ?k8 ?a9 ?l9 ?o9 ?k9 ?a10 ?l10 ?o10 ?k10 ?a11 ?l11 ?o11 ?k11 ?a12 ?l12 ?o12 ?k12 ?a13 ?l13 ?o13 ?k13 ?a14 ?l14 ?o14 ?k14 ?a15 ?l15 ?o15 ?k15 ?a16 ?l16 ?o16 ?k16 ?a17 ?l17 ?o17 ?k17 ?a18 ?l18 ?o18 ?k18 ?a19 ?l19 ?o19 ?k19 ?a20 ?l20 ?o20 ?k20 ?a21 ?l21 ?o21 ?k21 ?a22 ?l22 ?o22 ?k22 ?a23 ?l23 ?o23 ?k23 ?a24 ?l24 ?o24 ?k24 ?a25 ?l25 ?o25 ?k25 ?a26 ?l26 ?o26 ?k26 ?a27 ?l27 ?o27 ?k27 ?a28 ?l28 ?o28 ?k28 ?a29 ?l29 ?o29 ?k29 ?a30 ?l30 ?o30 ?k30 ?ns ?nd ?SE ?z0 ?z1 ?z2 ?z3 ?z4 ?z5 ?z6 ?z7 ?z8 ?z9 ?z10
    (case xm0 => k_is)
    (case xm1 => k_is)
    (case xm2 => k_is)
    (case a0 => k_is)
    (case l0 => k_is)
    (case o0 => k_is)
    (case k0 => k_is)
    (case a1 => k_is)
    (case l1 => k_is)
    (case o1 => k_is)
    (case k1 => k_is)
    (case w1 => k_is)
    (case p1 => rfl)
    (case v1 => rfl)
    (case r1 => rfl)
    (case a2 => k_is)
    (case l2 => k_is)
    (case o2 => k_is)
    (case k2 => k_is)
    (case a3 => k_is)
    (case l3 => k_is)
    (case o3 => k_is)
    (case k3 => k_is)
    (case a4 => k_is)
    (case l4 => k_is)
    (case o4 => k_is)
    (case k4 => k_is)
    (case a5 => k_is)
    (case l5 => k_is)
    (case o5 => k_is)
    (case k5 => k_is)
    (case a6 => k_is)
    (case l6 => k_is)
    (case o6 => k_is)
    (case k6 => k_is)
    (case a7 => k_is)
    (case l7 => k_is)
    (case o7 => k_is)
    (case k7 => k_is)
    (case a8 => k_is)
    (case l8 => k_is)
    (case o8 => k_is)
    (case k8 => k_is)
    (case a9 => k_is)
    (case l9 => k_is)
    (case o9 => k_is)
    (case k9 => k_is)
    (case a10 => k_is)
    (case l10 => k_is)
    (case o10 => k_is)
    (case k10 => k_is)
    (case a11 => k_is)
    (case l11 => k_is)
    (case o11 => k_is)
    (case k11 => k_is)
    (case a12 => k_is)
    (case l12 => k_is)
    (case o12 => k_is)
    (case k12 => k_is)
    (case a13 => k_is)
    (case l13 => k_is)
    (case o13 => k_is)
    (case k13 => k_is)
    (case a14 => k_is)
    (case l14 => k_is)
    (case o14 => k_is)
    (case k14 => k_is)
    (case a15 => k_is)
    (case l15 => k_is)
    (case o15 => k_is)
    (case k15 => k_is)
    (case a16 => k_is)
    (case l16 => k_is)
    (case o16 => k_is)
    (case k16 => k_is)
    (case a17 => k_is)
    (case l17 => k_is)
    (case o17 => k_is)
    (case k17 => k_is)
    (case a18 => k_is)
    (case l18 => k_is)
    (case o18 => k_is)
    (case k18 => k_is)
    (case a19 => k_is)
    (case l19 => k_is)
    (case o19 => k_is)
    (case k19 => k_is)
    (case a20 => k_is)
    (case l20 => k_is)
    (case o20 => k_is)
    (case k20 => k_is)
    (case a21 => k_is)
    (case l21 => k_is)
    (case o21 => k_is)
    (case k21 => k_is)
    (case a22 => k_is)
    (case l22 => k_is)
    (case o22 => k_is)
    (case k22 => k_is)
    (case a23 => k_is)
    (case l23 => k_is)
    (case o23 => k_is)
    (case k23 => k_is)
    (case a24 => k_is)
    (case l24 => k_is)
    (case o24 => k_is)
    (case k24 => k_is)
    (case a25 => k_is)
    (case l25 => k_is)
    (case o25 => k_is)
    (case k25 => k_is)
    (case a26 => k_is)
    (case l26 => k_is)
    (case o26 => k_is)
    (case k26 => k_is)
    (case a27 => k_is)
    (case l27 => k_is)
    (case o27 => k_is)
    (case k27 => k_is)
    (case a28 => k_is)
    (case l28 => k_is)
    (case o28 => k_is)
    (case k28 => k_is)
    (case a29 => k_is)
    (case l29 => k_is)
    (case o29 => k_is)
    (case k29 => k_is)
    (case a30 => k_is)
    (case l30 => k_is)
    (case o30 => k_is)
    (case k30 => k_is)
    (case ns => kernel_rfl)
    (case nd => k_is)
    (case SE => exact fun p loose mean mg mb => E00.errs True.intro w p loose mean mg mb)
    (case z0 => k_is)
    (case z1 => k_is)
    (case z2 => k_is)
    (case z3 => k_is)
    (case z4 => k_is)
    (case z5 => k_is)
    (case z6 => k_is)
    (case z7 => k_is)
    (case z8 => k_is)
    (case z9 => k_is)
    (case z10 => k_is)

