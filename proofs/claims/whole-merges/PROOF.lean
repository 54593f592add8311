import PyProof.Rows.All
import KE.KIntText
import PyProof.ReprReads
import PyProof.Rows.SortStr
import Wide.All
import OpenK.AllK
import Wide.FinOn
import HandS.ForMost
import HandS.DictComp
import HandS.IsInst
import HandS.RaiseMore
import PySem.Challenge.RW_recordshelf_k62_whole_merges
import KE.GoesEnum
import KE.KDictItemsList
import HandS.ListItems
import HandS.Flow
import HandS.TupAny
import HandS.More
import HandS.Star
import PyProof.DictUpdate
import KE.KExcInit
import KE.KExcSuper
import HandS.ForSpec
import HandS.GenList
import HandS.SetTxt0
import HandS.SetFor
import HandS.Set
import HandS.Conv
import HandS.Steps
import HandS.Wide
import HandS.Text
import HandS.Ends
section
set_option Elab.async false
set_option linter.all false
/-! The text of data is read in one way. -/
namespace Mw
open PySem

abbrev cs (x : Str) : List Nat := x.cps.toList

/-! ### a text of data, strings by qs -/
section
variable (qs : Str → List Nat)
mutual
def txt : PyData → List Nat
  | .none => [78, 111, 110, 101]
  | .bool b => if b then [84, 114, 117, 101] else [70, 97, 108, 115, 101]
  | .int i => cs (Str.ofString (toString i))
  | .str x => qs x
  | .list xs => 91 :: (txtAll xs ++ [93])
  | .tuple xs => 40 :: (txtAll xs ++ (if xs.length == 1 then [44, 41] else [41]))
  | .dict kvs => 123 :: (txtKv kvs ++ [125])
def txtAll : List PyData → List Nat
  | [] => []
  | x :: r => txt x ++ txtRest r
def txtRest : List PyData → List Nat
  | [] => []
  | x :: r => 44 :: 32 :: (txt x ++ txtRest r)
def txtKv : List (PyData × PyData) → List Nat
  | [] => []
  | (k, v) :: r => txt k ++ 58 :: 32 :: (txt v ++ txtKvRest r)
def txtKvRest : List (PyData × PyData) → List Nat
  | [] => []
  | (k, v) :: r => 44 :: 32 :: (txt k ++ 58 :: 32 :: (txt v ++ txtKvRest r))
end
end

/-! ### numbers -/
theorem toNat_inj {a b : Char} (h : a.toNat = b.toNat) : a = b := by
  apply Char.ext
  apply UInt32.toNat_inj.mp
  exact h
theorem map_toNat_inj : ∀ {a b : List Char}, a.map Char.toNat = b.map Char.toNat → a = b
  | [], [], _ => rfl
  | [], _ :: _, h => nomatch h
  | _ :: _, [], h => nomatch h
  | x :: a, y :: b, h => by
    rw [List.map_cons, List.map_cons] at h
    injection h with h1 h2
    rw [toNat_inj h1, map_toNat_inj h2]
theorem digits_inj {m n : Nat} (h : (Nat.toDigits 10 m).map Char.toNat = (Nat.toDigits 10 n).map Char.toNat) : m = n := by
  have e := map_toNat_inj h
  rw [← Nat.ofDigitChars_ten_toDigits (n := m), ← Nat.ofDigitChars_ten_toDigits (n := n), e]
/-- a digit's code -/
def Dg (c : Nat) : Prop := 48 ≤ c ∧ c ≤ 57
theorem digit_code {c : Char} (h : c.isDigit = true) : Dg c.toNat := by
  unfold Char.isDigit at h
  simp only [ge_iff_le, Bool.and_eq_true, decide_eq_true_eq] at h
  exact h
theorem digits_dg {n c : Nat} (h : c ∈ (Nat.toDigits 10 n).map Char.toNat) : Dg c := by
  obtain ⟨d, hd, rfl⟩ := List.mem_map.mp h
  exact digit_code (Nat.isDigit_of_mem_toDigits (by decide) (by decide) hd)
theorem digits_ne (n : Nat) : (Nat.toDigits 10 n).map Char.toNat ≠ [] := by
  intro h
  have := List.map_eq_nil_iff.mp h
  exact Nat.toDigits_ne_nil this
theorem cs_nat (n : Nat) : cs (Str.ofString (toString (Int.ofNat n))) = (Nat.toDigits 10 n).map Char.toNat := PySem.W.KIN.signs_num n
theorem cs_neg (n : Nat) : cs (Str.ofString (toString (Int.negSucc n))) = 45 :: (Nat.toDigits 10 (n + 1)).map Char.toNat := by
  show (Str.ofString (toString (Int.negSucc n))).cps.toList = _
  rw [Str.ofString_eq_toList]
  have e : toString (Int.negSucc n) = "-" ++ Nat.repr (n + 1) := rfl
  rw [e]
  show (("-" ++ Nat.repr (n + 1)).toList.map Char.toNat) = _
  rw [String.toList_append, List.map_append, Nat.toList_repr]
  rfl
/-- an end: nothing, or a sign that is no digit -/
def Tm (r : List Nat) : Prop := ∀ c t, r = c :: t → c = 44 ∨ c = 93 ∨ c = 41 ∨ c = 125 ∨ c = 58
theorem Tm.nil : Tm [] := fun _ _ h => nomatch h
theorem Tm.cons {c : Nat} {t : List Nat} (h : c = 44 ∨ c = 93 ∨ c = 41 ∨ c = 125 ∨ c = 58) : Tm (c :: t) := fun d u e => by
  injection e with e1 _
  rw [← e1]
  exact h
theorem Tm.nodg {c : Nat} {t : List Nat} (h : Tm (c :: t)) : ¬ Dg c := by
  intro d
  rcases h c t rfl with rfl | rfl | rfl | rfl | rfl <;> (unfold Dg at d; omega)
theorem run_inj : ∀ {a b r r' : List Nat}, (∀ c ∈ a, Dg c) → (∀ c ∈ b, Dg c) → Tm r → Tm r' → a ++ r = b ++ r' → a = b ∧ r = r'
  | [], [], _, _, _, _, _, _, h => ⟨rfl, h⟩
  | [], y :: b, r, r', _, hb, hr, _, h => by
    have h' : r = y :: (b ++ r') := h
    exact absurd (hb y List.mem_cons_self) (Tm.nodg (h' ▸ hr))
  | x :: a, [], r, r', ha, _, _, hr, h => by
    have h' : x :: (a ++ r) = r' := h
    exact absurd (ha x List.mem_cons_self) (Tm.nodg (h' ▸ hr))
  | x :: a, y :: b, r, r', ha, hb, hr, hr', h => by
    rw [List.cons_append, List.cons_append] at h
    injection h with h1 h2
    obtain ⟨e1, e2⟩ := run_inj (fun c hc => ha c (List.mem_cons_of_mem _ hc)) (fun c hc => hb c (List.mem_cons_of_mem _ hc)) hr hr' h2
    rw [h1, e1]
    exact ⟨rfl, e2⟩
theorem int_inj : ∀ {i j : Int} {r r' : List Nat}, Tm r → Tm r' → cs (Str.ofString (toString i)) ++ r = cs (Str.ofString (toString j)) ++ r' → i = j ∧ r = r'
  | .ofNat m, .ofNat n, r, r', hr, hr', h => by
    rw [cs_nat, cs_nat] at h
    obtain ⟨e1, e2⟩ := run_inj (fun c hc => digits_dg hc) (fun c hc => digits_dg hc) hr hr' h
    rw [digits_inj e1]
    exact ⟨rfl, e2⟩
  | .negSucc m, .negSucc n, r, r', hr, hr', h => by
    rw [cs_neg, cs_neg, List.cons_append, List.cons_append] at h
    injection h with _ h
    obtain ⟨e1, e2⟩ := run_inj (fun c hc => digits_dg hc) (fun c hc => digits_dg hc) hr hr' h
    have e : m + 1 = n + 1 := digits_inj e1
    have e' : m = n := by omega
    rw [e']
    exact ⟨rfl, e2⟩
  | .ofNat m, .negSucc n, r, r', hr, hr', h => by
    rw [cs_nat, cs_neg] at h
    cases q : (Nat.toDigits 10 m).map Char.toNat with
    | nil => exact absurd q (digits_ne m)
    | cons c t =>
      rw [q, List.cons_append, List.cons_append] at h
      injection h with h _
      have d : Dg c := digits_dg (n := m) (by rw [q]; exact List.mem_cons_self)
      unfold Dg at d
      omega
  | .negSucc n, .ofNat m, r, r', hr, hr', h => by
    rw [cs_nat, cs_neg] at h
    cases q : (Nat.toDigits 10 m).map Char.toNat with
    | nil => exact absurd q (digits_ne m)
    | cons c t =>
      rw [q, List.cons_append, List.cons_append] at h
      injection h with h _
      have d : Dg c := digits_dg (n := m) (by rw [q]; exact List.mem_cons_self)
      unfold Dg at d
      omega

/-! ### kinds by the first sign -/
def kd : PyData → Nat
  | .none => 0 | .bool _ => 1 | .int _ => 2 | .str _ => 3 | .list _ => 4 | .tuple _ => 5 | .dict _ => 6
def kc (c : Nat) : Nat :=
  if c = 78 then 0 else if c = 84 ∨ c = 70 then 1 else if c = 45 ∨ (48 ≤ c ∧ c ≤ 57) then 2 else if c = 34 ∨ c = 39 then 3 else if c = 91 then 4 else if c = 40 then 5 else if c = 123 then 6 else 7
theorem kc_dg {c : Nat} (h : Dg c) : kc c = 2 := by
  unfold kc
  unfold Dg at h
  rw [if_neg (by omega), if_neg (by omega), if_pos (by omega)]

/-- what is asked of the strings' text -/
structure Qs (qs : Str → List Nat) (ok : Str → Prop) : Prop where
  head : ∀ x, ok x → ∃ c t, qs x = c :: t ∧ (c = 34 ∨ c = 39)
  inj : ∀ x y r r', ok x → ok y → qs x ++ r = qs y ++ r' → x = y ∧ r = r'
section
variable (ok : Str → Prop)
mutual
def good : PyData → Prop
  | .none => True
  | .bool _ => True
  | .int _ => True
  | .str x => ok x
  | .list xs => goodAll xs
  | .tuple xs => goodAll xs
  | .dict kvs => goodKv kvs
def goodAll : List PyData → Prop
  | [] => True
  | x :: r => good x ∧ goodAll r
def goodKv : List (PyData × PyData) → Prop
  | [] => True
  | (k, v) :: r => good k ∧ good v ∧ goodKv r
end
end
section
variable {qs : Str → List Nat} {ok : Str → Prop}
theorem head_kind (Q : Qs qs ok) : ∀ d : PyData, good ok d → ∃ c t, txt qs d = c :: t ∧ kc c = kd d
  | .none, _ => ⟨78, [111, 110, 101], by simp only [txt], rfl⟩
  | .bool true, _ => ⟨84, [114, 117, 101], by simp only [txt, if_true], rfl⟩
  | .bool false, _ => ⟨70, [97, 108, 115, 101], by simp [txt], rfl⟩
  | .int (.ofNat n), _ => by
    cases q : (Nat.toDigits 10 n).map Char.toNat with
    | nil => exact absurd q (digits_ne n)
    | cons c t => exact ⟨c, t, by simp only [txt]; rw [cs_nat, q], kc_dg (digits_dg (n := n) (by rw [q]; exact List.mem_cons_self))⟩
  | .int (.negSucc n), _ => ⟨45, _, by simp only [txt]; exact cs_neg n, rfl⟩
  | .str x, h => by
    obtain ⟨c, t, e, hc⟩ := Q.head x (by simpa only [good] using h)
    refine ⟨c, t, by simp only [txt]; exact e, ?_⟩
    rcases hc with rfl | rfl <;> rfl
  | .list xs, _ => ⟨91, _, by simp only [txt]; rfl, rfl⟩
  | .tuple xs, _ => ⟨40, _, by simp only [txt]; rfl, rfl⟩
  | .dict xs, _ => ⟨123, _, by simp only [txt]; rfl, rfl⟩
theorem kinds_eq (Q : Qs qs ok) {d e : PyData} {r r' : List Nat} (hd : good ok d) (he : good ok e) (h : txt qs d ++ r = txt qs e ++ r') : kd d = kd e := by
  obtain ⟨c, t, e1, k1⟩ := head_kind Q d hd
  obtain ⟨c', t', e2, k2⟩ := head_kind Q e he
  rw [e1, e2, List.cons_append, List.cons_append] at h
  injection h with h _
  rw [← k1, ← k2, h]
theorem not_closer (Q : Qs qs ok) {d : PyData} {c : Nat} {r s : List Nat} (hd : good ok d) (hc : kc c = 7) (h : txt qs d ++ r = c :: s) : False := by
  obtain ⟨c', t, e1, k1⟩ := head_kind Q d hd
  rw [e1, List.cons_append] at h
  injection h with h _
  rw [h, hc] at k1
  cases d <;> simp [kd] at k1

mutual
theorem txt_inj (Q : Qs qs ok) : ∀ (d e : PyData) (r r' : List Nat), good ok d → good ok e → Tm r → Tm r' → txt qs d ++ r = txt qs e ++ r' → d = e ∧ r = r'
  | .none, e, r, r', hd, he, hr, hr', h => by
    have k := kinds_eq Q hd he h
    cases e <;> simp only [kd, reduceCtorEq] at k <;> try omega
    simp only [txt] at h
    exact ⟨rfl, List.append_cancel_left h⟩
  | .bool b, e, r, r', hd, he, hr, hr', h => by
    have k := kinds_eq Q hd he h
    cases e <;> simp only [kd, reduceCtorEq] at k <;> try omega
    rename_i c
    simp only [txt] at h
    cases b <;> cases c <;> simp at h <;> exact ⟨rfl, h⟩
  | .int i, e, r, r', hd, he, hr, hr', h => by
    have k := kinds_eq Q hd he h
    cases e <;> simp only [kd, reduceCtorEq] at k <;> try omega
    simp only [txt] at h
    obtain ⟨e1, e2⟩ := int_inj hr hr' h
    exact ⟨by rw [e1], e2⟩
  | .str x, e, r, r', hd, he, hr, hr', h => by
    have k := kinds_eq Q hd he h
    cases e <;> simp only [kd, reduceCtorEq] at k <;> try omega
    simp only [txt] at h
    simp only [good] at hd he
    obtain ⟨e1, e2⟩ := Q.inj _ _ _ _ hd he h
    exact ⟨by rw [e1], e2⟩
  | .list xs, e, r, r', hd, he, hr, hr', h => by
    have k := kinds_eq Q hd he h
    cases e <;> simp only [kd, reduceCtorEq] at k <;> try omega
    rename_i ys
    simp only [txt, List.cons_append, List.append_assoc, List.singleton_append] at h
    injection h with _ h
    simp only [good] at hd he
    cases xs with
    | nil =>
      cases ys with
      | nil =>
        simp only [txtAll, List.nil_append] at h
        injection h with _ h
        exact ⟨rfl, h⟩
      | cons y ys =>
        simp only [txtAll, List.nil_append, List.append_assoc] at h
        simp only [goodAll] at he
        exact (not_closer Q he.1 (by decide : kc 93 = 7) h.symm).elim
    | cons x xs =>
      cases ys with
      | nil =>
        simp only [txtAll, List.nil_append, List.append_assoc] at h
        simp only [goodAll] at hd
        exact (not_closer Q hd.1 (by decide : kc 93 = 7) h).elim
      | cons y ys =>
        simp only [txtAll, List.append_assoc] at h
        simp only [goodAll] at hd he
        obtain ⟨e1, e2⟩ := txt_inj Q x y _ _ hd.1 he.1 (rest_tm xs (.inl rfl)) (rest_tm ys (.inl rfl)) h
        obtain ⟨e3, e4⟩ := rest_inj Q xs ys 93 r r' (by decide) (by decide) hd.2 he.2 e2
        rw [e1, e3]
        exact ⟨rfl, e4⟩
  | .tuple xs, e, r, r', hd, he, hr, hr', h => by
    have k := kinds_eq Q hd he h
    cases e <;> simp only [kd, reduceCtorEq] at k <;> try omega
    rename_i ys
    simp only [txt, List.cons_append, List.append_assoc] at h
    injection h with _ h
    simp only [good] at hd he
    cases xs with
    | nil =>
      cases ys with
      | nil =>
        simp [txtAll] at h
        exact ⟨rfl, h⟩
      | cons y ys =>
        simp only [txtAll, List.nil_append, List.append_assoc, List.length_nil] at h
        simp only [goodAll] at he
        exact (not_closer Q he.1 (by decide : kc 41 = 7) h.symm).elim
    | cons x xs =>
      cases ys with
      | nil =>
        simp only [txtAll, List.nil_append, List.append_assoc, List.length_nil] at h
        simp only [goodAll] at hd
        exact (not_closer Q hd.1 (by decide : kc 41 = 7) h).elim
      | cons y ys =>
        simp only [txtAll, List.append_assoc] at h
        simp only [goodAll] at hd he
        obtain ⟨e1, e2⟩ := txt_inj Q x y _ _ hd.1 he.1 (rest_tm2 xs) (rest_tm2 ys) h
        cases xs with
        | nil =>
          cases ys with
          | nil =>
            simp [txtRest] at e2
            rw [e1]
            exact ⟨rfl, e2⟩
          | cons y2 ys =>
            simp [txtRest] at e2
        | cons x2 xs =>
          cases ys with
          | nil => simp [txtRest] at e2
          | cons y2 ys =>
            have l1 : ((x :: x2 :: xs).length == 1) = false := by simp
            have l2 : ((y :: y2 :: ys).length == 1) = false := by simp
            rw [l1, l2] at e2
            obtain ⟨e3, e4⟩ := rest_inj Q (x2 :: xs) (y2 :: ys) 41 r r' (by decide) (by decide) hd.2 he.2 (by simpa using e2)
            rw [e1, e3]
            exact ⟨rfl, e4⟩
  | .dict xs, e, r, r', hd, he, hr, hr', h => by
    have k := kinds_eq Q hd he h
    cases e <;> simp only [kd, reduceCtorEq] at k <;> try omega
    rename_i ys
    simp only [txt, List.cons_append, List.append_assoc, List.singleton_append] at h
    injection h with _ h
    simp only [good] at hd he
    cases xs with
    | nil =>
      cases ys with
      | nil =>
        simp only [txtKv, List.nil_append] at h
        injection h with _ h
        exact ⟨rfl, h⟩
      | cons y ys =>
        obtain ⟨yk, yv⟩ := y
        simp only [txtKv, List.nil_append, List.append_assoc] at h
        simp only [goodKv] at he
        exact (not_closer Q he.1 (by decide : kc 125 = 7) h.symm).elim
    | cons x xs =>
      obtain ⟨xk, xv⟩ := x
      cases ys with
      | nil =>
        simp only [txtKv, List.nil_append, List.append_assoc] at h
        simp only [goodKv] at hd
        exact (not_closer Q hd.1 (by decide : kc 125 = 7) h).elim
      | cons y ys =>
        obtain ⟨yk, yv⟩ := y
        simp only [txtKv, List.append_assoc, List.cons_append] at h
        simp only [goodKv] at hd he
        obtain ⟨e1, e2⟩ := txt_inj Q xk yk _ _ hd.1 he.1 (Tm.cons (by simp)) (Tm.cons (by simp)) h
        injection e2 with _ e2
        injection e2 with _ e2
        obtain ⟨e3, e4⟩ := txt_inj Q xv yv _ _ hd.2.1 he.2.1 (kv_tm xs) (kv_tm ys) e2
        obtain ⟨e5, e6⟩ := kv_inj Q xs ys r r' hd.2.2 he.2.2 e4
        rw [e1, e3, e5]
        exact ⟨rfl, e6⟩
theorem rest_inj (Q : Qs qs ok) : ∀ (xs ys : List PyData) (c : Nat) (r r' : List Nat), c ≠ 44 → (c = 93 ∨ c = 41) → goodAll ok xs → goodAll ok ys → txtRest qs xs ++ c :: r = txtRest qs ys ++ c :: r' → xs = ys ∧ r = r'
  | [], [], c, r, r', _, _, _, _, h => by
    simp only [txtRest, List.nil_append] at h
    injection h with _ h
    exact ⟨rfl, h⟩
  | [], y :: ys, c, r, r', hc, _, _, _, h => by
    simp only [txtRest, List.nil_append, List.cons_append] at h
    injection h with h _
    exact absurd h hc
  | x :: xs, [], c, r, r', hc, _, _, _, h => by
    simp only [txtRest, List.nil_append, List.cons_append] at h
    injection h with h _
    exact absurd h.symm hc
  | x :: xs, y :: ys, c, r, r', hc, hc2, hx, hy, h => by
    simp only [txtRest, List.cons_append, List.append_assoc] at h
    injection h with _ h
    injection h with _ h
    simp only [goodAll] at hx hy
    obtain ⟨e1, e2⟩ := txt_inj Q x y _ _ hx.1 hy.1 (rest_tm xs (by rcases hc2 with h | h <;> simp [h])) (rest_tm ys (by rcases hc2 with h | h <;> simp [h])) h
    obtain ⟨e3, e4⟩ := rest_inj Q xs ys c r r' hc hc2 hx.2 hy.2 e2
    rw [e1, e3]
    exact ⟨rfl, e4⟩
theorem kv_inj (Q : Qs qs ok) : ∀ (xs ys : List (PyData × PyData)) (r r' : List Nat), goodKv ok xs → goodKv ok ys → txtKvRest qs xs ++ 125 :: r = txtKvRest qs ys ++ 125 :: r' → xs = ys ∧ r = r'
  | [], [], r, r', _, _, h => by
    simp only [txtKvRest, List.nil_append] at h
    injection h with _ h
    exact ⟨rfl, h⟩
  | [], (yk, yv) :: ys, r, r', _, _, h => by
    simp only [txtKvRest, List.nil_append, List.cons_append] at h
    injection h with h _
    omega
  | (xk, xv) :: xs, [], r, r', _, _, h => by
    simp only [txtKvRest, List.nil_append, List.cons_append] at h
    injection h with h _
    omega
  | (xk, xv) :: xs, (yk, yv) :: ys, r, r', hx, hy, h => by
    simp only [txtKvRest, List.cons_append, List.append_assoc] at h
    injection h with _ h
    injection h with _ h
    simp only [goodKv] at hx hy
    obtain ⟨e1, e2⟩ := txt_inj Q xk yk _ _ hx.1 hy.1 (Tm.cons (by simp)) (Tm.cons (by simp)) h
    injection e2 with _ e2
    injection e2 with _ e2
    obtain ⟨e3, e4⟩ := txt_inj Q xv yv _ _ hx.2.1 hy.2.1 (kv_tm xs) (kv_tm ys) e2
    obtain ⟨e5, e6⟩ := kv_inj Q xs ys r r' hx.2.2 hy.2.2 e4
    rw [e1, e3, e5]
    exact ⟨rfl, e6⟩
theorem rest_tm {qs : Str → List Nat} : ∀ (xs : List PyData) {c : Nat} {r : List Nat}, (c = 93 ∨ c = 44 ∨ c = 41) → Tm (txtRest qs xs ++ c :: r)
  | [], c, r, h => by
    simp only [txtRest, List.nil_append]
    exact Tm.cons (by rcases h with h | h | h <;> simp [h])
  | x :: xs, c, r, _ => by
    simp only [txtRest, List.cons_append]
    exact Tm.cons (.inl rfl)
theorem rest_tm2 {qs : Str → List Nat} : ∀ (xs : List PyData) {b : Bool} {r : List Nat}, Tm (txtRest qs xs ++ ((if b then [44, 41] else [41]) ++ r))
  | [], b, r => by
    simp only [txtRest, List.nil_append]
    cases b <;> simp <;> exact Tm.cons (by simp)
  | x :: xs, b, r => by
    simp only [txtRest, List.cons_append]
    exact Tm.cons (.inl rfl)
theorem kv_tm {qs : Str → List Nat} : ∀ (xs : List (PyData × PyData)) {r : List Nat}, Tm (txtKvRest qs xs ++ 125 :: r)
  | [], r => by
    simp only [txtKvRest, List.nil_append]
    exact Tm.cons (by simp)
  | (k, v) :: xs, r => by
    simp only [txtKvRest, List.cons_append]
    exact Tm.cons (.inl rfl)
end
theorem txt_inj0 (Q : Qs qs ok) {d e : PyData} (hd : good ok d) (he : good ok e) (h : txt qs d = txt qs e) : d = e :=
  (txt_inj Q d e [] [] hd he Tm.nil Tm.nil (by rw [h])).1
end
end Mw

end

section
set_option Elab.async false
set_option linter.all false
/-! The two texts of data: repr's and the notation's. -/
namespace Mw
open PySem
/-- the signs that are drawn -/
def signs : List Nat := [10, 32, 34, 44, 49, 58, 92, 93, 97, 98, 99, 107, 126]
/-- a text of such signs -/
def okS (x : Str) : Prop := ∀ c ∈ cs x, c ∈ signs
def eR (c : Nat) : List Nat := if c = 92 then [92, 92] else if c = 10 then [92, 110] else [c]
def eN (c : Nat) : List Nat := if c = 34 then [92, 34] else if c = 92 then [92, 92] else if c = 10 then [92, 110] else [c]
/-- an escape's text, ended by q -/
def qt (q : Nat) (e : Nat → List Nat) (x : Str) : List Nat := q :: ((cs x).flatMap e ++ [q])
theorem enc_inj {q : Nat} {e : Nat → List Nat} (h0 : ∀ c ∈ signs, ∀ s t, e c ++ s ≠ q :: t) (h1 : ∀ c ∈ signs, ∀ d ∈ signs, ∀ s t, e c ++ s = e d ++ t → c = d ∧ s = t) :
    ∀ (a b : List Nat) (r r' : List Nat), (∀ c ∈ a, c ∈ signs) → (∀ c ∈ b, c ∈ signs) → a.flatMap e ++ q :: r = b.flatMap e ++ q :: r' → a = b ∧ r = r'
  | [], [], r, r', _, _, h => by
    simp only [List.flatMap_nil, List.nil_append] at h
    injection h with _ h
    exact ⟨rfl, h⟩
  | [], y :: b, r, r', _, hb, h => by
    simp only [List.flatMap_nil, List.nil_append, List.flatMap_cons, List.append_assoc] at h
    exact absurd h.symm (h0 y (hb y List.mem_cons_self) _ _)
  | x :: a, [], r, r', ha, _, h => by
    simp only [List.flatMap_nil, List.nil_append, List.flatMap_cons, List.append_assoc] at h
    exact absurd h (h0 x (ha x List.mem_cons_self) _ _)
  | x :: a, y :: b, r, r', ha, hb, h => by
    simp only [List.flatMap_cons, List.append_assoc] at h
    obtain ⟨e1, e2⟩ := h1 x (ha x List.mem_cons_self) y (hb y List.mem_cons_self) _ _ h
    obtain ⟨e3, e4⟩ := enc_inj h0 h1 a b r r' (fun c hc => ha c (List.mem_cons_of_mem _ hc)) (fun c hc => hb c (List.mem_cons_of_mem _ hc)) e2
    rw [e1, e3]
    exact ⟨rfl, e4⟩
theorem qt_qs {q : Nat} {e : Nat → List Nat} (hq : q = 34 ∨ q = 39) (h0 : ∀ c ∈ signs, ∀ s t, e c ++ s ≠ q :: t) (h1 : ∀ c ∈ signs, ∀ d ∈ signs, ∀ s t, e c ++ s = e d ++ t → c = d ∧ s = t) : Qs (qt q e) okS where
  head := fun x _ => ⟨q, _, rfl, hq⟩
  inj := fun x y r r' hx hy h => by
    simp only [qt, List.cons_append, List.append_assoc, List.singleton_append] at h
    injection h with _ h
    obtain ⟨e1, e2⟩ := enc_inj h0 h1 _ _ _ _ hx hy h
    exact ⟨PyProof.Rows.ext_toList e1, e2⟩
theorem eR0 : ∀ c ∈ signs, ∀ s t, eR c ++ s ≠ 39 :: t := by
  intro c hc s t h
  unfold eR at h
  split at h
  · simp at h
  · split at h
    · simp at h
    · simp only [List.singleton_append] at h
      injection h with h _
      subst h
      exact absurd hc (by decide)
theorem eR1 : ∀ c ∈ signs, ∀ d ∈ signs, ∀ s t, eR c ++ s = eR d ++ t → c = d ∧ s = t := by
  intro c hc d hd s t h
  unfold eR at h
  split at h <;> split at h <;> try (split at h)
  all_goals try (split at h)
  all_goals simp only [List.cons_append, List.nil_append, List.cons.injEq] at h
  all_goals first
    | (refine ⟨?_, ?_⟩ <;> simp_all)
    | (exfalso; omega)
theorem eN0 : ∀ c ∈ signs, ∀ s t, eN c ++ s ≠ 34 :: t := by
  intro c hc s t h
  unfold eN at h
  split at h
  · simp at h
  · split at h
    · simp at h
    · split at h
      · simp at h
      · simp only [List.singleton_append] at h
        injection h with h _
        omega
theorem eN1 : ∀ c ∈ signs, ∀ d ∈ signs, ∀ s t, eN c ++ s = eN d ++ t → c = d ∧ s = t := by
  intro c hc d hd s t h
  unfold eN at h
  by_cases a1 : c = 34 <;> by_cases a2 : c = 92 <;> by_cases a3 : c = 10 <;> by_cases b1 : d = 34 <;> by_cases b2 : d = 92 <;> by_cases b3 : d = 10 <;>
    simp only [a1, a2, a3, b1, b2, b3, if_true, if_false, List.cons_append, List.nil_append, List.cons.injEq] at h ⊢ <;> first | omega | (refine ⟨?_, ?_⟩ <;> simp_all) | (exfalso; omega) | (simp_all; done)
abbrev qR : Str → List Nat := qt 39 eR
abbrev qN : Str → List Nat := qt 34 eN
theorem QR : Qs qR okS := qt_qs (.inr rfl) eR0 eR1
theorem QN : Qs qN okS := qt_qs (.inl rfl) eN0 eN1

/-! ### repr's text -/
theorem char39 : ∀ c ∈ signs, Builtin.Str.reprChar 39 c = eR c := by decide +kernel
theorem foldl_flat (f : Nat → List Nat) : ∀ (l : List Nat) (acc : Array Nat), (l.foldl (fun out c => out ++ (f c).toArray) acc).toList = acc.toList ++ l.flatMap f
  | [], acc => by simp
  | c :: r, acc => by
    rw [List.foldl_cons, foldl_flat f r]
    simp
theorem flatMap_eq {f g : Nat → List Nat} : ∀ {l : List Nat}, (∀ c ∈ l, f c = g c) → l.flatMap f = l.flatMap g
  | [], _ => rfl
  | c :: r, h => by
    rw [List.flatMap_cons, List.flatMap_cons, h c List.mem_cons_self, flatMap_eq fun d hd => h d (List.mem_cons_of_mem _ hd)]
theorem quote39 {x : Str} (h : okS x) : reprQuote x = 39 := by
  unfold reprQuote
  have e : x.cps.contains 39 = false := by
    rw [Bool.eq_false_iff]
    intro q
    have := h 39 (Array.mem_toList_iff.mpr (Array.contains_iff_mem.mp q))
    exact absurd this (by decide)
  rw [e]
  rfl
theorem cs_repr {x : Str} (h : okS x) : cs (reprText x) = qR x := by
  unfold reprText
  rw [quote39 h]
  show ((x.cps.foldl (fun out c => out ++ (Builtin.Str.reprChar 39 c).toArray) #[39]).push 39).toList = _
  rw [Array.toList_push, ← Array.foldl_toList, foldl_flat, flatMap_eq fun c hc => char39 c (h c hc)]
  rfl
theorem cs_app (a b : Str) : cs (a ++ b) = cs a ++ cs b := PySem.W.KT.app_list a b
theorem join_cons2 (a b : Str) (r : List Str) : Str.join (", " : Str) (a :: b :: r) = a ++ (", " : Str) ++ Str.join (", " : Str) (b :: r) := rfl
theorem cs_comma : cs (", " : Str) = [44, 32] := by decide +kernel
/-- texts one behind the other -/
def jn : List (List Nat) → List Nat
  | [] => []
  | x :: r => x ++ r.flatMap fun y => 44 :: 32 :: y
theorem cs_join : ∀ ts : List Str, cs (Str.join (", " : Str) ts) = jn (ts.map cs)
  | [] => rfl
  | [x] => by
    show cs x = _
    simp [jn]
  | x :: y :: r => by
    rw [join_cons2, cs_app, cs_app, cs_join (y :: r), cs_comma]
    simp [jn]
theorem cs_from : ∀ (ts : List Str) (k : Nat) (acc : Str), 0 < k → cs (textFrom k acc ts) = cs acc ++ (ts.map cs).flatMap fun y => 44 :: 32 :: y
  | [], k, acc, _ => by simp [textFrom]
  | t :: ts, k, acc, hk => by
    show cs (textFrom (k + 1) (acc ++ ((if k > 0 then ", " else "" : String) : Str) ++ t) ts) = _
    rw [cs_from ts (k + 1) _ (Nat.succ_pos k), if_pos hk, cs_app, cs_app, cs_comma]
    simp
theorem cs_list (ts : List Str) : cs (listText ts) = 91 :: (jn (ts.map cs) ++ [93]) := by
  unfold listText
  rw [cs_app]
  have e1 : cs ("[" : Str) = [91] := by decide +kernel
  have e2 : cs ("]" : Str) = [93] := by decide +kernel
  rw [e2]
  cases ts with
  | nil =>
    show cs ("[" : Str) ++ [93] = _
    rw [e1]
    rfl
  | cons t ts =>
    show cs (textFrom 1 (("[" : Str) ++ ((if 0 > 0 then ", " else "" : String) : Str) ++ t) ts) ++ [93] = _
    rw [cs_from ts 1 _ Nat.one_pos, cs_app, cs_app, e1]
    have e3 : cs ((if 0 > 0 then ", " else "" : String) : Str) = [] := by decide +kernel
    rw [e3]
    simp [jn]
theorem cs_tuple (ts : List Str) : cs (tupleText ts) = 40 :: (jn (ts.map cs) ++ (if ts.length == 1 then [44, 41] else [41])) := by
  unfold tupleText
  rw [cs_app, cs_app, cs_join]
  have e1 : cs ("(" : Str) = [40] := by decide +kernel
  have e2 : cs (",)" : Str) = [44, 41] := by decide +kernel
  have e3 : cs (")" : Str) = [41] := by decide +kernel
  rw [e1]
  cases ts.length == 1
  · show [40] ++ jn (ts.map cs) ++ cs (")" : Str) = _
    rw [e3]
    simp
  · show [40] ++ jn (ts.map cs) ++ cs (",)" : Str) = _
    rw [e2]
    simp
theorem cs_dict (ts : List Str) : cs (dictText ts) = 123 :: (jn (ts.map cs) ++ [125]) := by
  unfold dictText
  rw [cs_app, cs_app, cs_join]
  have e1 : cs ("{" : Str) = [123] := by decide +kernel
  have e2 : cs ("}" : Str) = [125] := by decide +kernel
  rw [e1, e2]
  simp
theorem rest_flat (qs : Str → List Nat) : ∀ xs : List PyData, txtRest qs xs = (xs.map (txt qs)).flatMap fun y => 44 :: 32 :: y
  | [] => by simp [txtRest]
  | x :: r => by
    simp only [txtRest, List.map_cons, List.flatMap_cons, rest_flat qs r]
    simp
theorem all_jn (qs : Str → List Nat) : ∀ xs : List PyData, txtAll qs xs = jn (xs.map (txt qs))
  | [] => by simp [txtAll, jn]
  | x :: r => by simp only [txtAll, List.map_cons, jn, rest_flat]
abbrev txtP (qs : Str → List Nat) (p : PyData × PyData) : List Nat := txt qs p.1 ++ 58 :: 32 :: txt qs p.2
theorem kvRest_flat (qs : Str → List Nat) : ∀ xs : List (PyData × PyData), txtKvRest qs xs = (xs.map (txtP qs)).flatMap fun y => 44 :: 32 :: y
  | [] => by simp [txtKvRest]
  | (k, v) :: r => by
    simp only [txtKvRest, List.map_cons, List.flatMap_cons, kvRest_flat qs r]
    simp
theorem kv_jn (qs : Str → List Nat) : ∀ xs : List (PyData × PyData), txtKv qs xs = jn (xs.map (txtP qs))
  | [] => by simp [txtKv, jn]
  | (k, v) :: r => by
    simp only [txtKv, List.map_cons, jn, kvRest_flat]
    simp
mutual
theorem cs_shown : ∀ d : PyData, good okS d → cs d.shown = txt qR d
  | .none, _ => by simp only [PyData.shown, txt]; decide +kernel
  | .bool true, _ => by simp only [PyData.shown, txt, if_true]; decide +kernel
  | .bool false, _ => by simp only [PyData.shown, txt]; decide +kernel
  | .int i, _ => by simp only [PyData.shown, txt]
  | .str x, h => by
    simp only [PyData.shown, txt]
    exact cs_repr (by simpa only [good] using h)
  | .list xs, h => by
    simp only [PyData.shown, txt]
    rw [cs_list, all_jn, cs_all xs (by simpa only [good] using h)]
  | .tuple xs, h => by
    simp only [PyData.shown, txt]
    rw [cs_tuple, all_jn, cs_all xs (by simpa only [good] using h), shown_len xs]
  | .dict xs, h => by
    simp only [PyData.shown, txt]
    rw [cs_dict, kv_jn, cs_kv xs (by simpa only [good] using h)]
theorem cs_all : ∀ xs : List PyData, goodAll okS xs → (PyData.shownAll xs).map cs = xs.map (txt qR)
  | [], _ => by simp only [PyData.shownAll, List.map_nil]
  | x :: r, h => by
    simp only [goodAll] at h
    simp only [PyData.shownAll, List.map_cons, cs_shown x h.1, cs_all r h.2]
theorem cs_kv : ∀ xs : List (PyData × PyData), goodKv okS xs → (PyData.shownKv xs).map cs = xs.map (txtP qR)
  | [], _ => by simp only [PyData.shownKv, List.map_nil]
  | (k, v) :: r, h => by
    simp only [goodKv] at h
    have e : cs (": " : Str) = [58, 32] := by decide +kernel
    simp only [PyData.shownKv, List.map_cons, cs_kv r h.2.2, cs_app, e, cs_shown k h.1, cs_shown v h.2.1]
    simp
theorem shown_len : ∀ xs : List PyData, (PyData.shownAll xs).length = xs.length
  | [] => by simp only [PyData.shownAll, List.length_nil]
  | x :: r => by simp only [PyData.shownAll, List.length_cons, shown_len r]
end
/-- what repr shows tells the data -/
theorem shown_inj {d e : PyData} (hd : good okS d) (he : good okS e) (h : d.shown = e.shown) : d = e :=
  txt_inj0 QR hd he (by rw [← cs_shown d hd, ← cs_shown e he, h])
/-! ### the notation -/
def note (d : PyData) : Str := ⟨(txt qN d).toArray⟩
theorem cs_note (d : PyData) : cs (note d) = txt qN d := rfl
theorem note_inj {d e : PyData} (hd : good okS d) (he : good okS e) (h : note d = note e) : d = e :=
  txt_inj0 QN hd he (by rw [← cs_note, ← cs_note, h])
end Mw

end

section
set_option Elab.async false
set_option linter.all false
/-! Maps, deeds, merges: the mathematics. -/
namespace Mw
open PySem

/-! ### sorted lists of texts -/
theorem rising_le : ∀ {l : List Str} {p : Str}, PyProof.Rows.risingS p l = true → ∀ x ∈ l, ¬ (cs x < cs p)
  | [], _, _, _, hx => nomatch hx
  | y :: r, p, h, x, hx => by
    have h' : (!Spec.ltCps (cs y) (cs p) && PyProof.Rows.risingS y r) = true := h
    rw [PyProof.Rows.ltCps_eq] at h'
    simp only [Bool.and_eq_true, Bool.not_eq_true', decide_eq_false_iff_not] at h'
    obtain ⟨h1, h2⟩ := h'
    rcases List.mem_cons.mp hx with rfl | hx
    · exact h1
    · intro q
      have h3 := rising_le h2 x hx
      have a1 : cs p ≤ cs y := List.not_lt.mp h1
      have a2 : cs y ≤ cs x := List.not_lt.mp h3
      exact absurd q (List.not_lt.mpr (List.le_trans a1 a2))
theorem sorted_tail {x : Str} {l : List Str} (h : PyProof.Rows.sortedS (x :: l) = true) : PyProof.Rows.sortedS l = true := by
  have h' : PyProof.Rows.risingS x l = true := h
  cases l with
  | nil => rfl
  | cons y r =>
    have h2 : (!Spec.ltCps (cs y) (cs x) && PyProof.Rows.risingS y r) = true := h'
    simp only [Bool.and_eq_true] at h2
    exact h2.2
theorem sorted_uniq : ∀ {l l' : List Str}, PyProof.Rows.sortedS l = true → PyProof.Rows.sortedS l' = true → l.Nodup → l'.Nodup → (∀ k, k ∈ l ↔ k ∈ l') → l = l'
  | [], [], _, _, _, _, _ => rfl
  | [], y :: r, _, _, _, _, h => by have := (h y).mpr List.mem_cons_self; cases this
  | x :: r, [], _, _, _, _, h => by have := (h x).mp List.mem_cons_self; cases this
  | x :: a, y :: b, sa, sb, na, nb, h => by
    have lx : ∀ z ∈ x :: a, ¬ cs z < cs x := fun z hz => by
      rcases List.mem_cons.mp hz with rfl | hz
      · exact List.lt_irrefl _
      · exact rising_le sa z hz
    have ly : ∀ z ∈ y :: b, ¬ cs z < cs y := fun z hz => by
      rcases List.mem_cons.mp hz with rfl | hz
      · exact List.lt_irrefl _
      · exact rising_le sb z hz
    have e1 : cs x ≤ cs y := List.not_lt.mp (lx y ((h y).mpr List.mem_cons_self))
    have e2 : cs y ≤ cs x := List.not_lt.mp (ly x ((h x).mp List.mem_cons_self))
    have e : x = y := PyProof.Rows.ext_toList (List.le_antisymm e1 e2)
    subst e
    have n1 := List.nodup_cons.mp na
    have n2 := List.nodup_cons.mp nb
    rw [sorted_uniq (sorted_tail sa) (sorted_tail sb) n1.2 n2.2 fun k => ?_]
    constructor
    · intro hk
      rcases List.mem_cons.mp ((h k).mp (List.mem_cons_of_mem _ hk)) with e | q
      · exact absurd (e ▸ hk) n1.1
      · exact q
    · intro hk
      rcases List.mem_cons.mp ((h k).mpr (List.mem_cons_of_mem _ hk)) with e | q
      · exact absurd (e ▸ hk) n2.1
      · exact q

/-! ### maps -/
abbrev Mp := List (Str × PyData)
def lk (m : Mp) (k : Str) : Option PyData := (m.find? fun p => decide (p.1 = k)).map (·.2)
def keys (m : Mp) : List Str := m.map (·.1)
def putM (m : Mp) (k : Str) (v : PyData) : Mp := if (m.any fun p => decide (p.1 = k)) = true then m.map (fun p => if p.1 = k then (p.1, v) else p) else m ++ [(k, v)]
def dropM (m : Mp) (k : Str) : Mp := m.filter fun p => decide (p.1 ≠ k)
theorem lk_nil (k : Str) : lk [] k = none := rfl
theorem lk_pos {p : Str × PyData} {r : Mp} {k : Str} (e : p.1 = k) : lk (p :: r) k = some p.2 := by simp [lk, List.find?_cons, e]
theorem lk_neg {p : Str × PyData} {r : Mp} {k : Str} (e : ¬ p.1 = k) : lk (p :: r) k = lk r k := by simp [lk, List.find?_cons, e]
theorem lk_any (k : Str) : ∀ m : Mp, (m.any fun p => decide (p.1 = k)) = (lk m k).isSome
  | [] => rfl
  | p :: r => by
    by_cases e : p.1 = k
    · rw [lk_pos e]; simp [e]
    · rw [lk_neg e, List.any_cons, lk_any k r]; simp [e]
theorem lk_mem {m : Mp} {k : Str} : (lk m k).isSome = true ↔ k ∈ keys m := by
  rw [← lk_any, List.any_eq_true]
  unfold keys
  rw [List.mem_map]
  constructor
  · rintro ⟨p, hp, e⟩; exact ⟨p, hp, of_decide_eq_true e⟩
  · rintro ⟨p, hp, e⟩; exact ⟨p, hp, decide_eq_true e⟩
theorem lk_none {m : Mp} {k : Str} : lk m k = none ↔ k ∉ keys m := by
  rw [← lk_mem]
  cases lk m k <;> simp
theorem lk_in {m : Mp} {k : Str} {v : PyData} (h : lk m k = some v) : (k, v) ∈ m := by
  induction m with
  | nil => cases h
  | cons p r ih =>
    by_cases e : p.1 = k
    · rw [lk_pos e] at h
      cases h
      rw [← e]
      exact List.mem_cons_self
    · rw [lk_neg e] at h
      exact List.mem_cons_of_mem _ (ih h)
theorem lk_of_mem {m : Mp} (hn : (keys m).Nodup) {k : Str} {v : PyData} (h : (k, v) ∈ m) : lk m k = some v := by
  induction m with
  | nil => cases h
  | cons p r ih =>
    have n := List.nodup_cons.mp (show (p.1 :: keys r).Nodup from hn)
    rcases List.mem_cons.mp h with e | q
    · rw [← e]; exact lk_pos rfl
    · have : ¬ p.1 = k := fun e => n.1 (e ▸ List.mem_map_of_mem (f := (·.1)) q)
      rw [lk_neg this]
      exact ih n.2 q
theorem lk_map (k j : Str) (y : PyData) : ∀ m : Mp, lk (m.map fun p => if p.1 = k then (p.1, y) else p) j = (lk m j).map fun x => if j = k then y else x
  | [] => rfl
  | p :: r => by
    rw [List.map_cons]
    by_cases e : p.1 = j
    · by_cases q : p.1 = k
      · have z : j = k := e.symm.trans q
        rw [lk_pos (p := if p.1 = k then (p.1, y) else p) (by rw [if_pos q]; exact e), lk_pos e, if_pos q]
        simp [z]
      · have z : ¬ j = k := fun z => q (e.trans z)
        rw [lk_pos (p := if p.1 = k then (p.1, y) else p) (by rw [if_neg q]; exact e), lk_pos e, if_neg q]
        simp [z]
    · rw [lk_neg (p := if p.1 = k then (p.1, y) else p) (by split <;> exact e), lk_neg e, lk_map k j y r]
theorem lk_snoc (k j : Str) (y : PyData) : ∀ m : Mp, lk m k = none → lk (m ++ [(k, y)]) j = if j = k then some y else lk m j
  | [], _ => by
    by_cases e : k = j
    · rw [List.nil_append, lk_pos (p := (k, y)) e, if_pos e.symm]
    · rw [List.nil_append, lk_neg (p := (k, y)) e, if_neg (fun q => e q.symm)]
  | p :: r, h => by
    by_cases q : p.1 = k
    · rw [lk_pos q] at h; cases h
    · rw [lk_neg q] at h
      rw [List.cons_append]
      by_cases e : p.1 = j
      · rw [lk_pos e, lk_pos e, if_neg fun z => q (e.trans z)]
      · rw [lk_neg e, lk_neg e, lk_snoc k j y r h]
theorem lk_put (m : Mp) (k j : Str) (y : PyData) : lk (putM m k y) j = if j = k then some y else lk m j := by
  unfold putM
  by_cases h : (m.any fun p => decide (p.1 = k)) = true
  · rw [if_pos h, lk_map]
    by_cases e : j = k
    · rw [if_pos e]
      subst e
      rw [lk_any] at h
      cases q : lk m j with
      | none => rw [q] at h; cases h
      | some v => simp
    · simp only [if_neg e]
      cases lk m j <;> rfl
  · rw [if_neg h]
    refine lk_snoc k j y m ?_
    rw [lk_any] at h
    cases q : lk m k with
    | none => rfl
    | some v => rw [q] at h; exact absurd rfl h
theorem lk_filter (P : Str → Bool) (j : Str) : ∀ m : Mp, lk (m.filter fun p => P p.1) j = if P j = true then lk m j else none
  | [] => by simp [lk]
  | p :: r => by
    by_cases h : P p.1 = true
    · rw [List.filter_cons_of_pos (p := fun p : Str × PyData => P p.1) h]
      by_cases e : p.1 = j
      · rw [lk_pos e, lk_pos e, ← e, if_pos h]
      · rw [lk_neg e, lk_neg e, lk_filter P j r]
    · rw [List.filter_cons_of_neg (p := fun p : Str × PyData => P p.1) h, lk_filter P j r]
      by_cases e : p.1 = j
      · rw [← e, if_neg h, if_neg h]
      · rw [lk_neg e]
theorem lk_drop (m : Mp) (k j : Str) : lk (dropM m k) j = if j = k then none else lk m j := by
  have h := lk_filter (fun x => decide (x ≠ k)) j m
  show lk (m.filter fun p => decide (p.1 ≠ k)) j = _
  rw [h]
  by_cases e : j = k <;> simp [e]
theorem keys_put (m : Mp) (k : Str) (v : PyData) : keys (putM m k v) = if k ∈ keys m then keys m else keys m ++ [k] := by
  unfold putM
  by_cases h : (m.any fun p => decide (p.1 = k)) = true
  · rw [if_pos h, if_pos (lk_mem.mp (by rw [← lk_any]; exact h))]
    unfold keys
    rw [List.map_map]
    apply List.map_congr_left
    intro p _
    show (if p.1 = k then (p.1, v) else p).1 = p.1
    split <;> rfl
  · rw [if_neg h, if_neg (fun q => h (by rw [lk_any]; exact lk_mem.mpr q))]
    unfold keys
    rw [List.map_append]
    rfl
theorem nd_put {m : Mp} (k : Str) (v : PyData) (h : (keys m).Nodup) : (keys (putM m k v)).Nodup := by
  rw [keys_put]
  split
  · exact h
  · rename_i q
    rw [List.nodup_append]
    refine ⟨h, by simp, fun a ha b hb e => ?_⟩
    rw [List.mem_singleton] at hb
    exact q (hb ▸ e ▸ ha)
theorem nd_filter {m : Mp} (P : Str × PyData → Bool) (h : (keys m).Nodup) : (keys (m.filter P)).Nodup := List.Nodup.sublist (List.Sublist.map _ List.filter_sublist) h
theorem nd_drop {m : Mp} (k : Str) (h : (keys m).Nodup) : (keys (dropM m k)).Nodup := nd_filter _ h
theorem len_put (m : Mp) (k : Str) (v : PyData) : (putM m k v).length ≤ m.length + 1 := by
  unfold putM
  split <;> simp
theorem len_drop (m : Mp) (k : Str) : (dropM m k).length ≤ m.length := List.length_filter_le _ _
theorem mem_put {m : Mp} {k : Str} {v : PyData} {p : Str × PyData} (h : p ∈ putM m k v) : p ∈ m ∨ (p = (k, v)) := by
  unfold putM at h
  split at h
  · obtain ⟨q, hq, e⟩ := List.mem_map.mp h
    by_cases c : q.1 = k
    · rw [if_pos c] at e
      exact .inr (by rw [← e, c])
    · rw [if_neg c] at e
      exact .inl (e ▸ hq)
  · rcases List.mem_append.mp h with h | h
    · exact .inl h
    · exact .inr (List.mem_singleton.mp h)

/-! ### deeds -/
inductive Deed where
  | put (k : Str) (v : PyData)
  | drop (k : Str)
def stepM (m : Mp) : Deed → Mp
  | .put k v => putM m k v
  | .drop k => dropM m k
def doneM (m : Mp) (ds : List Deed) : Mp := ds.foldl stepM m
theorem nd_done : ∀ (ds : List Deed) {m : Mp}, (keys m).Nodup → (keys (doneM m ds)).Nodup
  | [], _, h => h
  | .put k v :: r, _, h => nd_done r (nd_put k v h)
  | .drop k :: r, _, h => nd_done r (nd_drop k h)
theorem len_done : ∀ (ds : List Deed) (m : Mp), (doneM m ds).length ≤ m.length + ds.length
  | [], m => Nat.le_refl _
  | .put k v :: r, m => by
    have h1 := len_done r (putM m k v)
    have h2 := len_put m k v
    show (doneM (putM m k v) r).length ≤ _
    rw [List.length_cons]
    omega
  | .drop k :: r, m => by
    have h1 := len_done r (dropM m k)
    have h2 := len_drop m k
    show (doneM (dropM m k) r).length ≤ _
    rw [List.length_cons]
    omega
theorem mem_done : ∀ (ds : List Deed) {m : Mp} {p : Str × PyData}, p ∈ doneM m ds → p ∈ m ∨ ∃ k v, Deed.put k v ∈ ds ∧ p = (k, v)
  | [], _, _, h => .inl h
  | .put k v :: r, m, p, h => by
    rcases mem_done r (m := putM m k v) h with h | ⟨j, w, hj, e⟩
    · rcases mem_put h with h | e
      · exact .inl h
      · exact .inr ⟨k, v, List.mem_cons_self, e⟩
    · exact .inr ⟨j, w, List.mem_cons_of_mem _ hj, e⟩
  | .drop k :: r, m, p, h => by
    rcases mem_done r (m := dropM m k) h with h | ⟨j, w, hj, e⟩
    · exact .inl ((List.mem_filter.mp h).1)
    · exact .inr ⟨j, w, List.mem_cons_of_mem _ hj, e⟩
theorem lk_drops (j : Str) : ∀ (ks : List Str) (m : Mp), lk (doneM m (ks.map Deed.drop)) j = if j ∈ ks then none else lk m j
  | [], m => by simp [doneM]
  | k :: r, m => by
    show lk (doneM (dropM m k) (r.map Deed.drop)) j = _
    rw [lk_drops j r (dropM m k), lk_drop]
    by_cases e : j = k
    · simp [e]
    · by_cases q : j ∈ r <;> simp [e, q]
theorem lk_puts (j : Str) : ∀ (ps : Mp) (m : Mp), (keys ps).Nodup → lk (doneM m (ps.map fun p => Deed.put p.1 p.2)) j = ((lk ps j).elim (lk m j) some)
  | [], m, _ => rfl
  | p :: r, m, h => by
    have n := List.nodup_cons.mp (show (p.1 :: keys r).Nodup from h)
    show lk (doneM (putM m p.1 p.2) (r.map fun p => Deed.put p.1 p.2)) j = _
    rw [lk_puts j r _ n.2, lk_put]
    by_cases e : p.1 = j
    · rw [lk_pos e, lk_none.mpr (e ▸ n.1), if_pos e.symm]
      rfl
    · rw [lk_neg e, if_neg (fun q => e q.symm)]

/-! ### changes, conflicts, the merge -/
noncomputable def eqD (a b : Option PyData) : Bool := @decide (a = b) (Classical.propDecidable _)
theorem eqD_iff {a b : Option PyData} : eqD a b = true ↔ a = b := by
  unfold eqD
  exact @decide_eq_true_iff _ (Classical.propDecidable _)
theorem eqD_self (a : Option PyData) : eqD a a = true := eqD_iff.mpr rfl
theorem eqD_not {a b : Option PyData} : eqD a b = false ↔ a ≠ b := by
  rw [← Bool.not_eq_true, eqD_iff]
/-- has one changed k over base -/
noncomputable def ch (base one : Mp) (k : Str) : Bool := !eqD (lk base k) (lk one k)
theorem ch_self (m : Mp) (k : Str) : ch m m k = false := by simp [ch, eqD_self]
theorem ch_true {a b : Mp} {k : Str} : ch a b k = true ↔ lk a k ≠ lk b k := by
  unfold ch
  rw [Bool.not_eq_true', eqD_not]
theorem ch_false {a b : Mp} {k : Str} : ch a b k = false ↔ lk a k = lk b k := by
  unfold ch
  rw [Bool.not_eq_false', eqD_iff]
noncomputable def cf (base one other : Mp) (k : Str) : Bool := ch base one k && (ch base other k && !eqD (lk one k) (lk other k))
theorem cf_comm (base one other : Mp) (k : Str) : cf base one other k = cf base other one k := by
  have e : eqD (lk one k) (lk other k) = eqD (lk other k) (lk one k) := by
    rw [Bool.eq_iff_iff, eqD_iff, eqD_iff]
    exact eq_comm
  unfold cf
  rw [e]
  cases ch base one k <;> cases ch base other k <;> rfl
noncomputable def mdeeds (base one other : Mp) : List Deed :=
  ((keys base).filter fun k => (lk other k).isNone).map Deed.drop ++ (other.filter fun p => ch base other p.1 && !ch base one p.1).map fun p => Deed.put p.1 p.2
noncomputable def mrg (base one other : Mp) : Mp := doneM one (mdeeds base one other)
theorem done_app (m : Mp) (a b : List Deed) : doneM m (a ++ b) = doneM (doneM m a) b := List.foldl_append
theorem lk_mrg {base one other : Mp} (ho : (keys other).Nodup) (k : Str) :
    lk (mrg base one other) k = if (ch base other k && !ch base one k) = true ∧ (lk other k).isSome = true then lk other k else if k ∈ keys base ∧ lk other k = none then none else lk one k := by
  unfold mrg mdeeds
  rw [done_app, lk_puts _ _ _ (nd_filter _ ho), lk_drops, lk_filter (fun k => ch base other k && !ch base one k)]
  have e1 : k ∈ (keys base).filter (fun k => (lk other k).isNone) ↔ k ∈ keys base ∧ lk other k = none := by
    rw [List.mem_filter, Option.isNone_iff_eq_none]
  have e2 : (if k ∈ (keys base).filter (fun k => (lk other k).isNone) then none else lk one k) = if k ∈ keys base ∧ lk other k = none then none else lk one k := by
    by_cases z : k ∈ keys base ∧ lk other k = none
    · rw [if_pos (e1.mpr z), if_pos z]
    · rw [if_neg (fun w => z (e1.mp w)), if_neg z]
  rw [e2]
  by_cases h : (ch base other k && !ch base one k) = true
  · rw [if_pos h]
    cases q : lk other k with
    | none =>
      rw [if_neg (c := (ch base other k && !ch base one k) = true ∧ (none : Option PyData).isSome = true) (fun z => by simp at z)]
      rfl
    | some v =>
      rw [if_pos (c := (ch base other k && !ch base one k) = true ∧ (some v).isSome = true) ⟨h, rfl⟩]
      rfl
  · rw [if_neg h, if_neg (c := (ch base other k && !ch base one k) = true ∧ (lk other k).isSome = true) (fun w => h w.1)]
    rfl
theorem filter_none {α : Type} {P : α → Bool} {l : List α} (h : ∀ x ∈ l, P x = false) : l.filter P = [] := by
  rw [List.filter_eq_nil_iff]
  intro x hx
  rw [h x hx]
  exact Bool.false_ne_true
theorem mdeeds_base (base one : Mp) : mdeeds base one base = [] := by
  unfold mdeeds
  rw [filter_none (fun k hk => ?_), filter_none (fun p hp => ?_)]
  · rfl
  · rw [ch_self]; rfl
  · have := lk_mem.mpr hk
    cases q : lk base k with
    | none => rw [q] at this; cases this
    | some v => rfl
/-- merging with the base -/
theorem mrg_base (base one : Mp) : mrg base one base = one := by
  unfold mrg
  rw [mdeeds_base]
  rfl
theorem dropM_no {m : Mp} {k : Str} (h : k ∉ keys m) : dropM m k = m := by
  unfold dropM
  rw [List.filter_eq_self]
  intro p hp
  exact decide_eq_true fun e => h (e ▸ List.mem_map_of_mem (f := (·.1)) hp)
theorem drops_no {m : Mp} : ∀ {ks : List Str}, (∀ k ∈ ks, k ∉ keys m) → doneM m (ks.map Deed.drop) = m
  | [], _ => rfl
  | k :: r, h => by
    show doneM (dropM m k) (r.map Deed.drop) = m
    rw [dropM_no (h k List.mem_cons_self)]
    exact drops_no fun j hj => h j (List.mem_cons_of_mem _ hj)
/-- merging with itself -/
theorem mrg_self (base one : Mp) : mrg base one one = one := by
  unfold mrg mdeeds
  rw [filter_none (P := fun p : Str × PyData => ch base one p.1 && !ch base one p.1) (fun p _ => by cases ch base one p.1 <;> rfl)]
  rw [List.map_nil, List.append_nil]
  refine drops_no fun k hk => ?_
  have := (List.mem_filter.mp hk).2
  rw [Option.isNone_iff_eq_none] at this
  exact lk_none.mp this
theorem lk_near {base other : Mp} (ho : (keys other).Nodup) (k : Str) : lk (mrg base base other) k = lk other k := by
  rw [lk_mrg ho, ch_self]
  by_cases h : ch base other k = true
  · rw [h]
    cases q : lk other k with
    | none =>
      rw [if_neg (fun z => by simp at z)]
      by_cases z : k ∈ keys base
      · rw [if_pos ⟨z, rfl⟩]
      · rw [if_neg (fun w => z w.1)]
        exact lk_none.mpr z
    | some v => rw [if_pos ⟨rfl, rfl⟩]
  · rw [Bool.not_eq_true] at h
    rw [h, if_neg (fun w => by simp at w)]
    have e := ch_false.mp h
    by_cases z : k ∈ keys base ∧ lk other k = none
    · rw [if_pos z, z.2]
    · rw [if_neg z]
      exact e
theorem near_keys {base other : Mp} (ho : (keys other).Nodup) (k : Str) : k ∈ keys (mrg base base other) ↔ k ∈ keys other := by
  rw [← lk_mem, ← lk_mem, lk_near ho]
/-- the merge has the changes of both -/
theorem mrg_both {base one other : Mp} (ho : (keys other).Nodup) (k : Str) (h : cf base one other k = false) :
    lk (mrg base one other) k = if ch base one k = true then lk one k else if ch base other k = true then lk other k else lk base k := by
  rw [lk_mrg ho]
  by_cases h1 : ch base one k = true
  · rw [if_pos h1, h1]
    rw [if_neg (fun w => by simp at w)]
    by_cases h2 : ch base other k = true
    · have e : lk one k = lk other k := by
        unfold cf at h
        rw [h1, h2] at h
        simp only [Bool.true_and, Bool.not_eq_false'] at h
        exact eqD_iff.mp h
      by_cases z : k ∈ keys base ∧ lk other k = none
      · rw [if_pos z, e, z.2]
      · rw [if_neg z]
    · rw [Bool.not_eq_true] at h2
      have e := ch_false.mp h2
      rw [if_neg]
      rintro ⟨z, q⟩
      rw [← e] at q
      exact lk_none.mp q z
  · rw [if_neg h1]
    rw [Bool.not_eq_true] at h1
    rw [h1]
    have e1 := ch_false.mp h1
    by_cases h2 : ch base other k = true
    · rw [if_pos h2, h2]
      cases q : lk other k with
      | some v => rw [if_pos ⟨rfl, rfl⟩]
      | none =>
        rw [if_neg (fun z => by simp at z)]
        by_cases z : k ∈ keys base
        · rw [if_pos ⟨z, rfl⟩]
        · rw [if_neg (fun w => z w.1), ← e1]
          exact lk_none.mpr z
    · rw [if_neg h2]
      rw [Bool.not_eq_true] at h2
      have e := ch_false.mp h2
      rw [h2, if_neg (fun w => by simp at w), if_neg, e1]
      rintro ⟨z, q⟩
      rw [← e] at q
      exact lk_none.mp q z
theorem nd_mrg {base one other : Mp} (h : (keys one).Nodup) : (keys (mrg base one other)).Nodup := nd_done _ h
theorem len_mrg (base one other : Mp) : (mrg base one other).length ≤ one.length + base.length + other.length := by
  have h := len_done (mdeeds base one other) one
  have h2 : (mdeeds base one other).length ≤ base.length + other.length := by
    unfold mdeeds
    rw [List.length_append, List.length_map, List.length_map]
    have a := List.length_filter_le (fun k => (lk other k).isNone) (keys base)
    have b := List.length_filter_le (fun p : Str × PyData => ch base other p.1 && !ch base one p.1) other
    have c : (keys base).length = base.length := List.length_map _
    omega
  unfold mrg
  omega
theorem mem_mrg {base one other : Mp} {p : Str × PyData} (h : p ∈ mrg base one other) : p ∈ one ∨ p ∈ other := by
  rcases mem_done _ h with h | ⟨k, v, hd, e⟩
  · exact .inl h
  · refine .inr ?_
    unfold mdeeds at hd
    rcases List.mem_append.mp hd with hd | hd
    · obtain ⟨_, _, e2⟩ := List.mem_map.mp hd
      cases e2
    · obtain ⟨q, hq, e2⟩ := List.mem_map.mp hd
      injection e2 with e3 e4
      have := (List.mem_filter.mp hq).1
      rw [e, ← e3, ← e4]
      exact this
end Mw

end

section
set_option Elab.async false
set_option linter.all false
set_option maxRecDepth 100000
/-! Walks over a dict that is free or locked; what may still be read. -/
namespace Mw
open PySem PySem.Spec PyProof.Rows L2

def nf : HO → Bool
  | .frz _ _ => false
  | _ => true
/-- all that can be read stays readable; lists and tuples stand as they are -/
structure RdS (H H' : Hp) : Prop where
  rd : ∀ a u, nf u = true → Rd H a u → Rd H' a u
  lst : ∀ a xs, H a = some (.lst xs) → H' a = some (.lst xs)
  tup : ∀ a xs, H a = some (.tup xs) → H' a = some (.tup xs)
theorem RdS.refl (H : Hp) : RdS H H := ⟨fun _ _ _ h => h, fun _ _ h => h, fun _ _ h => h⟩
theorem RdS.trans {H H1 H2 : Hp} (a : RdS H H1) (b : RdS H1 H2) : RdS H H2 := ⟨fun x u n h => b.rd x u n (a.rd x u n h), fun x u h => b.lst x u (a.lst x u h), fun x u h => b.tup x u (a.tup x u h)⟩
theorem rdS_of {H H' : Hp} (s : Same H H') : RdS H H' := ⟨fun a u _ h => by
  rcases h with h | ⟨o, h⟩
  · exact .inl (s a _ h)
  · exact .inr ⟨o, s a _ h⟩, fun a _ h => s a _ h, fun a _ h => s a _ h⟩
theorem RdS.seq {K : PySem.W.Frag} {H H' : Hp} {a : Addr} {xs : List V} (e : RdS H H') (h : SqL K H a xs) : SqL K H' a xs := by
  rcases h with h | h
  · exact .inl (e.rd a _ rfl h)
  · exact .inr h
theorem RdS.seqT {K : PySem.W.Frag} {H H' : Hp} {a : Addr} {xs : List V} (e : RdS H H') (h : SqT K H a xs) : SqT K H' a xs := by
  rcases h with h | h
  · exact .inl (e.rd a _ rfl h)
  · exact .inr h
theorem mut_nf {u : HO} (m : Mut (some u)) : nf u = true := by cases u <;> first | rfl | exact m.elim
theorem same_upd {H : Hp} {p : Addr} {o : HO} (n : H p = none) : Same H (upd H p o) := fun b u e => by
  rw [upd_ne (ne_of_none e n)]
  exact e
theorem same_upd2 {H H' : Hp} {p : Addr} {o : HO} (s : Same H H') (n : H p = none) : Same H (upd H' p o) := fun b u e => by
  rw [upd_ne (ne_of_none e n)]
  exact s b u e
theorem same_free {H H' : Hp} (s : Same H H') {p : Addr} (h : H' p = none) : H p = none := s.free h

/-- a dict at d, free or locked, is locked while e is evaluated -/
def tLockR (t : TE) : TE := fun σ H Q => ∃ d kvs, Rd H d (.dK kvs) ∧ ∀ od H1, H1 d = some (.frz od (.dK kvs)) → RdS H H1 → (∀ b, b ≠ d → H1 b = H b) →
  t σ H1 fun v H' => H' d = some (.frz od (.dK kvs)) ∧ ∀ H2, (Same H1 H' → Same H H2) → RdS H' H2 → (∀ b, b ≠ d → H2 b = H' b) → Q v H2
def tLockS (t : TS) : TS := fun D σ H => ∃ d kvs, Rd H d (.dK kvs) ∧ ∀ od H1, H1 d = some (.frz od (.dK kvs)) → RdS H H1 → (∀ b, b ≠ d → H1 b = H b) →
  t ⟨fun σ' H' => H' d = some (.frz od (.dK kvs)) ∧ ∀ H2, (Same H1 H' → Same H H2) → RdS H' H2 → (∀ b, b ≠ d → H2 b = H' b) → D.nx σ' H2,
     fun v H' => H' d = some (.frz od (.dK kvs)) ∧ ∀ H2, (Same H1 H' → Same H H2) → RdS H' H2 → (∀ b, b ≠ d → H2 b = H' b) → D.rt v H2,
     fun σ' H' => H' d = some (.frz od (.dK kvs)) ∧ ∀ H2, (Same H1 H' → Same H H2) → RdS H' H2 → (∀ b, b ≠ d → H2 b = H' b) → D.bk σ' H2,
     fun σ' H' => H' d = some (.frz od (.dK kvs)) ∧ ∀ H2, (Same H1 H' → Same H H2) → RdS H' H2 → (∀ b, b ≠ d → H2 b = H' b) → D.ct σ' H2⟩ σ H1
section
variable {H H' : Hp} {d : Addr} {kvs : List (Key × V)} {od : Obj}
theorem rdS_lock (h : H d = some (.dK kvs)) : RdS H (upd H d (.frz od (.dK kvs))) where
  rd := fun a v n r => by
    by_cases e : a = d
    · subst e
      rcases r with r | ⟨o, r⟩
      · rw [h] at r; cases r
        exact .inr ⟨od, upd_same⟩
      · rw [h] at r; cases r
    · unfold Rd
      rw [upd_ne e]
      exact r
  lst := fun a xs e => by
    rw [upd_ne (ne_of e h (by intro z; cases z))]
    exact e
  tup := fun a xs e => by
    rw [upd_ne (ne_of e h (by intro z; cases z))]
    exact e
theorem rdS_unlock (h : H' d = some (.frz od (.dK kvs))) : RdS H' (upd H' d (.dK kvs)) where
  rd := fun a v n r => by
    by_cases e : a = d
    · subst e
      rcases r with r | ⟨o, r⟩
      · rw [h] at r; cases r
        cases n
      · rw [h] at r; cases r
        exact .inl upd_same
    · unfold Rd
      rw [upd_ne e]
      exact r
  lst := fun a xs e => by
    rw [upd_ne (ne_of e h (by intro z; cases z))]
    exact e
  tup := fun a xs e => by
    rw [upd_ne (ne_of e h (by intro z; cases z))]
    exact e
theorem same_unlock (h : H d = some (.dK kvs)) (s : Same (upd H d (.frz od (.dK kvs))) H') : Same H (upd H' d (.dK kvs)) := fun b o e => by
  by_cases hb : b = d
  · rw [hb, upd_same, ← h, ← hb]
    exact e
  · rw [upd_ne hb]
    exact s b o (by rw [upd_ne hb]; exact e)
end
section
variable {X : Cx}
theorem pe_lockR {e : Expr} {t : TE} (h : PE X e t) : PE X e (tLockR t) := by
  refine ⟨fun pins s σ H Q I hw => ?_⟩
  obtain ⟨d, kvs, hd, hw⟩ := hw
  have mu : Mut (some (.dK kvs)) := trivial
  rcases hd with hd | ⟨od, hd⟩
  · obtain ⟨od, I1⟩ := I.lock hd mu
    refine thn (h.run pins s σ _ _ I1 (hw od _ upd_same (rdS_lock hd) fun b hb => upd_ne hb)) fun v s1 ⟨x, H1, I2, r, e2, q⟩ => ?_
    exact ⟨x, _, I2.unlock e2 (I.nofrz hd mu), r, q _ (same_unlock hd) (rdS_unlock e2) fun b hb => upd_ne hb⟩
  · refine thn (h.run pins s σ _ _ I (hw od H hd (RdS.refl _) fun _ _ => rfl)) fun v s1 ⟨x, H1, I2, r, e2, q⟩ => ?_
    exact ⟨x, _, I2, r, q _ (fun z => z) (RdS.refl _) fun _ _ => rfl⟩
theorem ps_lockS {st : Stmt} {t : TS} (h : PS X st t) : PS X st (tLockS t) := by
  refine ⟨fun pins s σ H D I hw => ?_⟩
  obtain ⟨d, kvs, hd, hw⟩ := hw
  have mu : Mut (some (.dK kvs)) := trivial
  rcases hd with hd | ⟨od, hd⟩
  · obtain ⟨od, I1⟩ := I.lock hd mu
    refine thn (h.run pins s σ _ _ I1 (hw od _ upd_same (rdS_lock hd) fun b hb => upd_ne hb)) fun f s1 q => ?_
    cases f with
    | next => obtain ⟨σ', H', I2, e, q⟩ := q; exact ⟨σ', _, I2.unlock e (I.nofrz hd mu), q _ (same_unlock hd) (rdS_unlock e) fun b hb => upd_ne hb⟩
    | brk => obtain ⟨σ', H', I2, e, q⟩ := q; exact ⟨σ', _, I2.unlock e (I.nofrz hd mu), q _ (same_unlock hd) (rdS_unlock e) fun b hb => upd_ne hb⟩
    | cont => obtain ⟨σ', H', I2, e, q⟩ := q; exact ⟨σ', _, I2.unlock e (I.nofrz hd mu), q _ (same_unlock hd) (rdS_unlock e) fun b hb => upd_ne hb⟩
    | ret v => obtain ⟨x, σ', H', I2, r, e, q⟩ := q; exact ⟨x, σ', _, I2.unlock e (I.nofrz hd mu), r, q _ (same_unlock hd) (rdS_unlock e) fun b hb => upd_ne hb⟩
  · refine thn (h.run pins s σ _ _ I (hw od H hd (RdS.refl _) fun _ _ => rfl)) fun f s1 q => ?_
    cases f with
    | next => obtain ⟨σ', H', I2, e, q⟩ := q; exact ⟨σ', _, I2, q _ (fun z => z) (RdS.refl _) fun _ _ => rfl⟩
    | brk => obtain ⟨σ', H', I2, e, q⟩ := q; exact ⟨σ', _, I2, q _ (fun z => z) (RdS.refl _) fun _ _ => rfl⟩
    | cont => obtain ⟨σ', H', I2, e, q⟩ := q; exact ⟨σ', _, I2, q _ (fun z => z) (RdS.refl _) fun _ _ => rfl⟩
    | ret v => obtain ⟨x, σ', H', I2, r, e, q⟩ := q; exact ⟨x, σ', _, I2, r, q _ (fun z => z) (RdS.refl _) fun _ _ => rfl⟩
end

/-! ### the turns over a locked dict's keys -/
section
variable {d : Addr} {od : Obj} {kvs : List (Key × V)}
theorem for_keys {g : TG} {tb : TS} {D : Ends} {σ : L2.St} {H : Hp} (Pv : Nat → L2.St → Hp → Prop) (h0 : Pv 0 σ H) (hl : ∀ i σ H, i ≤ kvs.length → Pv i σ H → H d = some (.frz od (.dK kvs)))
    (hs : ∀ i k v σ H, kvs[i]? = some (k, v) → Pv i σ H → g (kV k) σ H fun σ2 H2 => tb { D with nx := Pv (i + 1), ct := Pv (i + 1), bk := D.nx } σ2 H2) (hd : ∀ σ H, Pv kvs.length σ H → D.nx σ H) :
    ∃ W : Nat → Nat → L2.St → Hp → Prop, (∃ m, W 0 m σ H) ∧ ∀ i m σ H, W i m σ H →
      ((Itk d od kvs).stop i H ∧ D.nx σ H) ∨ ((Itk d od kvs).go i H ∧ ∃ N : L2.St → Hp → Prop, (∀ σ' H', N σ' H' → ∃ m', m' < m ∧ W (i + 1) m' σ' H') ∧ ∀ x H', (Itk d od kvs).yld i H x H' → g x σ H' fun σ2 H2 => tb { D with nx := N, ct := N, bk := D.nx } σ2 H2) := by
  refine ⟨fun i m σ H => m = kvs.length - i ∧ i ≤ kvs.length ∧ Pv i σ H, ⟨kvs.length, by simp, Nat.zero_le _, h0⟩, ?_⟩
  rintro i m σ H ⟨rfl, hi, p⟩
  have q := hl i σ H hi p
  by_cases hlt : i < kvs.length
  · refine .inr ⟨⟨q, hlt⟩, Pv (i + 1), fun σ' H' p' => ⟨kvs.length - (i + 1), by omega, rfl, hlt, p'⟩, fun x H' y => ?_⟩
    obtain ⟨e, k, v, y, ex⟩ := y
    subst e
    subst ex
    exact hs i k v σ _ y p
  · have e : i = kvs.length := by omega
    subst e
    exact .inl ⟨⟨q, Nat.le_refl _⟩, hd σ H p⟩
theorem lc_keys {g : TG} {tt : TT} {te : TE} {vs : List Nat} {σ : L2.St} {H1 : Hp} {D : Addr} {Qd : Hp → Prop} (Pv : Nat → Hp → Prop) (h0 : Pv 0 (upd H1 D (.lst []))) (hl : ∀ i H, i ≤ kvs.length → Pv i H → H d = some (.frz od (.dK kvs)))
    (hs : ∀ i k v H, kvs[i]? = some (k, v) → Pv i H → g (kV k) (wipe σ vs) H fun σ2 H2 => wipe σ2 vs = wipe σ vs ∧ tt σ2 H2 fun b H3 =>
      if b = true then te σ2 H3 fun y H4 => ∃ acc, H4 D = some (.lst acc) ∧ acc.length < sizeLine ∧ Pv (i + 1) (upd H4 D (.lst (acc ++ [y]))) else Pv (i + 1) H3) (hd : ∀ H, Pv kvs.length H → Qd H) :
    ∃ W : Nat → Nat → Hp → Prop, (∃ m, W 0 m (upd H1 D (.lst []))) ∧ ∀ i m H, W i m H →
      ((Itk d od kvs).stop i H ∧ Qd H) ∨ ((Itk d od kvs).go i H ∧ ∃ Nx : Hp → Prop, (∀ H', Nx H' → ∃ m', m' < m ∧ W (i + 1) m' H') ∧ ∀ x H', (Itk d od kvs).yld i H x H' → g x (wipe σ vs) H' fun σ2 H2 => wipe σ2 vs = wipe σ vs ∧ tt σ2 H2 fun b H3 =>
        if b = true then te σ2 H3 fun y H4 => ∃ acc, H4 D = some (.lst acc) ∧ acc.length < sizeLine ∧ Nx (upd H4 D (.lst (acc ++ [y]))) else Nx H3) := by
  refine ⟨fun i m H => m = kvs.length - i ∧ i ≤ kvs.length ∧ Pv i H, ⟨kvs.length, by simp, Nat.zero_le _, h0⟩, ?_⟩
  rintro i m H ⟨rfl, hi, p⟩
  have q := hl i H hi p
  by_cases hlt : i < kvs.length
  · refine .inr ⟨⟨q, hlt⟩, Pv (i + 1), fun H' p' => ⟨kvs.length - (i + 1), by omega, rfl, hlt, p'⟩, fun x H' y => ?_⟩
    obtain ⟨e, k, v, y, ex⟩ := y
    subst e
    subst ex
    exact hs i k v _ y p
  · have e : i = kvs.length := by omega
    subst e
    exact .inl ⟨⟨q, Nat.le_refl _⟩, hd H p⟩
theorem dc_keys {g : TG} {tt : TT} {tk tv : TE} {vs : List Nat} {σ : L2.St} {H1 : Hp} {D : Addr} {Qd : Hp → Prop} (Pv : Nat → Hp → Prop) (h0 : Pv 0 (upd H1 D (.dK []))) (hl : ∀ i H, i ≤ kvs.length → Pv i H → H d = some (.frz od (.dK kvs)))
    (hs : ∀ i k v H, kvs[i]? = some (k, v) → Pv i H → g (kV k) (wipe σ vs) H fun σ2 H2 => wipe σ2 vs = wipe σ vs ∧ tt σ2 H2 fun b H3 =>
      if b = true then tk σ2 H3 fun y H4 => tv σ2 H4 fun z H5 => ∃ kvs k, y = kV k ∧ H5 D = some (.dK kvs) ∧ kvs.length < sizeLine ∧ Pv (i + 1) (upd H5 D (.dK (putK kvs k z))) else Pv (i + 1) H3) (hd : ∀ H, Pv kvs.length H → Qd H) :
    ∃ W : Nat → Nat → Hp → Prop, (∃ m, W 0 m (upd H1 D (.dK []))) ∧ ∀ i m H, W i m H →
      ((Itk d od kvs).stop i H ∧ Qd H) ∨ ((Itk d od kvs).go i H ∧ ∃ Nx : Hp → Prop, (∀ H', Nx H' → ∃ m', m' < m ∧ W (i + 1) m' H') ∧ ∀ x H', (Itk d od kvs).yld i H x H' → g x (wipe σ vs) H' fun σ2 H2 => wipe σ2 vs = wipe σ vs ∧ tt σ2 H2 fun b H3 =>
        if b = true then tk σ2 H3 fun y H4 => tv σ2 H4 fun z H5 => ∃ kvs k, y = kV k ∧ H5 D = some (.dK kvs) ∧ kvs.length < sizeLine ∧ Nx (upd H5 D (.dK (putK kvs k z))) else Nx H3) := by
  refine ⟨fun i m H => m = kvs.length - i ∧ i ≤ kvs.length ∧ Pv i H, ⟨kvs.length, by simp, Nat.zero_le _, h0⟩, ?_⟩
  rintro i m H ⟨rfl, hi, p⟩
  have q := hl i H hi p
  by_cases hlt : i < kvs.length
  · refine .inr ⟨⟨q, hlt⟩, Pv (i + 1), fun H' p' => ⟨kvs.length - (i + 1), by omega, rfl, hlt, p'⟩, fun x H' y => ?_⟩
    obtain ⟨e, k, v, y, ex⟩ := y
    subst e
    subst ex
    exact hs i k v _ y p
  · have e : i = kvs.length := by omega
    subst e
    exact .inl ⟨⟨q, Nat.le_refl _⟩, hd H p⟩
end
end Mw

end

section
set_option Elab.async false
set_option linter.all false
set_option maxRecDepth 100000
/-! What stands for a datum in the heap. -/
namespace Mw
open PySem PySem.Spec PyProof.Rows L2

/-! ### small data -/
/-- a key -/
def okK (k : Str) : Prop := okS k ∧ 1 ≤ k.length ∧ k.length ≤ 5
def gd : Nat → PyData → Prop
  | _, .none => True
  | _, .bool _ => True
  | _, .int i => i.natAbs < 10 ^ 18
  | _, .str x => okS x ∧ x.length ≤ 5
  | 0, .list _ => False
  | 0, .tuple _ => False
  | 0, .dict _ => False
  | n + 1, .list xs => xs.length ≤ 40 ∧ ∀ x ∈ xs, gd n x
  | n + 1, .tuple xs => xs.length ≤ 40 ∧ ∀ x ∈ xs, gd n x
  | n + 1, .dict kvs => kvs.length ≤ 40 ∧ (∀ p ∈ kvs, (∃ k, p.1 = .str k ∧ okS k ∧ k.length ≤ 5) ∧ gd n p.2) ∧ (kvs.map (·.1)).Nodup
theorem goodAll_of {xs : List PyData} (h : ∀ x ∈ xs, good okS x) : goodAll okS xs := by
  induction xs with
  | nil => simp only [goodAll]
  | cons x r ih =>
    simp only [goodAll]
    exact ⟨h x List.mem_cons_self, ih fun y hy => h y (List.mem_cons_of_mem _ hy)⟩
theorem goodKv_of {xs : List (PyData × PyData)} (h : ∀ p ∈ xs, good okS p.1 ∧ good okS p.2) : goodKv okS xs := by
  induction xs with
  | nil => simp only [goodKv]
  | cons p r ih =>
    obtain ⟨k, v⟩ := p
    simp only [goodKv]
    exact ⟨(h (k, v) List.mem_cons_self).1, (h (k, v) List.mem_cons_self).2, ih fun y hy => h y (List.mem_cons_of_mem _ hy)⟩
theorem gd_good : ∀ (n : Nat) (d : PyData), gd n d → good okS d
  | _, .none, _ => by simp only [good]
  | _, .bool _, _ => by simp only [good]
  | _, .int _, _ => by simp only [good]
  | 0, .str x, h => by simp only [good]; exact (show okS x ∧ x.length ≤ 5 from h).1
  | _ + 1, .str x, h => by simp only [good]; exact (show okS x ∧ x.length ≤ 5 from h).1
  | 0, .list _, h => h.elim
  | 0, .tuple _, h => h.elim
  | 0, .dict _, h => h.elim
  | n + 1, .list xs, h => by
    simp only [good]
    exact goodAll_of fun x hx => gd_good n x (h.2 x hx)
  | n + 1, .tuple xs, h => by
    simp only [good]
    exact goodAll_of fun x hx => gd_good n x (h.2 x hx)
  | n + 1, .dict xs, h => by
    simp only [good]
    refine goodKv_of fun p hp => ?_
    obtain ⟨⟨k, e, hk, _⟩, hv⟩ := h.2.1 p hp
    refine ⟨?_, gd_good n _ hv⟩
    rw [e]
    simp only [good]
    exact hk
/-- the length of a datum's text -/
def bnd : Nat → Nat
  | 0 => 60
  | n + 1 => 40 * (bnd n + 70) + 10
theorem jn_len {B : Nat} : ∀ {ts : List (List Nat)}, (∀ t ∈ ts, t.length ≤ B) → (jn ts).length ≤ ts.length * (B + 2)
  | [], _ => Nat.zero_le _
  | x :: r, h => by
    have key : ∀ l : List (List Nat), (∀ t ∈ l, t.length ≤ B) → (l.flatMap fun y => 44 :: 32 :: y).length ≤ l.length * (B + 2) := by
      intro l
      induction l with
      | nil => intro _; exact Nat.zero_le _
      | cons y l ih =>
        intro hl
        have h1 := ih fun t ht => hl t (List.mem_cons_of_mem _ ht)
        have h2 := hl y List.mem_cons_self
        rw [List.flatMap_cons, List.length_append, List.length_cons, List.length_cons, List.length_cons, Nat.add_mul]
        omega
    have h1 := key r fun t ht => h t (List.mem_cons_of_mem _ ht)
    have h2 := h x List.mem_cons_self
    show (x ++ _).length ≤ _
    rw [List.length_append, List.length_cons, Nat.add_mul]
    omega
theorem esc_len {e : Nat → List Nat} (he : ∀ c, (e c).length ≤ 2) : ∀ l : List Nat, (l.flatMap e).length ≤ 2 * l.length
  | [] => Nat.le_refl _
  | c :: r => by
    have h1 := esc_len he r
    have h2 := he c
    rw [List.flatMap_cons, List.length_append, List.length_cons]
    omega
theorem qt_len {q : Nat} {e : Nat → List Nat} (he : ∀ c, (e c).length ≤ 2) {x : Str} (h : x.length ≤ 5) : (qt q e x).length ≤ 20 := by
  have h1 := esc_len he (cs x)
  have h2 : (cs x).length = x.length := Array.length_toList
  show (q :: ((cs x).flatMap e ++ [q])).length ≤ 20
  rw [List.length_cons, List.length_append, List.length_singleton]
  omega
theorem digits18 {m : Nat} (h : m < 10 ^ 18) : ((Nat.toDigits 10 m).map Char.toNat).length ≤ 18 := by
  rw [List.length_map]
  exact (Nat.length_toDigits_le_iff (by decide) (by decide)).mpr h
theorem int_len {i : Int} (h : i.natAbs < 10 ^ 18) : (cs (Str.ofString (toString i))).length ≤ 19 := by
  cases i with
  | ofNat m =>
    rw [cs_nat]
    exact Nat.le_succ_of_le (digits18 h)
  | negSucc m =>
    rw [cs_neg, List.length_cons]
    exact Nat.succ_le_succ (digits18 h)
theorem bnd0 : ∀ n, 60 ≤ bnd n
  | 0 => Nat.le_refl _
  | n + 1 => by
    have := bnd0 n
    show 60 ≤ 40 * (bnd n + 70) + 10
    omega
theorem txt_len {qs : Str → List Nat} (hq : ∀ x : Str, x.length ≤ 5 → (qs x).length ≤ 20) : ∀ (n : Nat) (d : PyData), gd n d → (txt qs d).length ≤ bnd n
  | n, .none, _ => by simp only [txt]; exact Nat.le_trans (by decide) (bnd0 n)
  | n, .bool true, _ => by simp only [txt, if_true]; exact Nat.le_trans (by decide) (bnd0 n)
  | n, .bool false, _ => by
    have e : txt qs (.bool false) = [70, 97, 108, 115, 101] := by simp [txt]
    rw [e]
    exact Nat.le_trans (by decide) (bnd0 n)
  | 0, .int i, h => by simp only [txt]; exact Nat.le_trans (int_len h) (by decide)
  | n + 1, .int i, h => by simp only [txt]; exact Nat.le_trans (int_len h) (Nat.le_trans (by decide) (bnd0 (n + 1)))
  | 0, .str x, h => by simp only [txt]; exact Nat.le_trans (hq x (show okS x ∧ x.length ≤ 5 from h).2) (by decide)
  | n + 1, .str x, h => by simp only [txt]; exact Nat.le_trans (hq x (show okS x ∧ x.length ≤ 5 from h).2) (Nat.le_trans (by decide) (bnd0 (n + 1)))
  | 0, .list _, h => h.elim
  | 0, .tuple _, h => h.elim
  | 0, .dict _, h => h.elim
  | n + 1, .list xs, h => by
    have hl : xs.length ≤ 40 := h.1
    have h1 := jn_len (B := bnd n) (ts := xs.map (txt qs)) fun t ht => by
      obtain ⟨x, hx, e⟩ := List.mem_map.mp ht
      rw [← e]
      exact txt_len hq n x (h.2 x hx)
    simp only [txt, all_jn, List.length_cons, List.length_append, List.length_nil]
    rw [List.length_map] at h1
    have h2 : xs.length * (bnd n + 2) ≤ 40 * (bnd n + 2) := Nat.mul_le_mul_right _ hl
    show _ ≤ 40 * (bnd n + 70) + 10
    omega
  | n + 1, .tuple xs, h => by
    have hl : xs.length ≤ 40 := h.1
    have h1 := jn_len (B := bnd n) (ts := xs.map (txt qs)) fun t ht => by
      obtain ⟨x, hx, e⟩ := List.mem_map.mp ht
      rw [← e]
      exact txt_len hq n x (h.2 x hx)
    simp only [txt, all_jn, List.length_cons, List.length_append]
    rw [List.length_map] at h1
    have h2 : xs.length * (bnd n + 2) ≤ 40 * (bnd n + 2) := Nat.mul_le_mul_right _ hl
    have h3 : (if (xs.length == 1) = true then ([44, 41] : List Nat) else [41]).length ≤ 2 := by split <;> decide
    show _ ≤ 40 * (bnd n + 70) + 10
    omega
  | n + 1, .dict xs, h => by
    have hl : xs.length ≤ 40 := h.1
    have h1 := jn_len (B := bnd n + 22) (ts := xs.map (txtP qs)) fun t ht => by
      obtain ⟨p, hp, e⟩ := List.mem_map.mp ht
      obtain ⟨⟨k, ek, hk, hkl⟩, hv⟩ := h.2.1 p hp
      rw [← e]
      show (txt qs p.1 ++ 58 :: 32 :: txt qs p.2).length ≤ _
      rw [ek]
      simp only [txt, List.length_append, List.length_cons]
      have a := hq k hkl
      have b := txt_len hq n p.2 hv
      omega
    simp only [txt, kv_jn, List.length_cons, List.length_append, List.length_nil]
    rw [List.length_map] at h1
    have h2 : xs.length * (bnd n + 22 + 2) ≤ 40 * (bnd n + 22 + 2) := Nat.mul_le_mul_right _ hl
    show _ ≤ 40 * (bnd n + 70) + 10
    omega
theorem eR_len (c : Nat) : (eR c).length ≤ 2 := by
  unfold eR
  split
  · exact Nat.le_refl 2
  · split
    · exact Nat.le_refl 2
    · exact (by omega : 1 ≤ 2)
theorem eN_len (c : Nat) : (eN c).length ≤ 2 := by
  unfold eN
  split
  · exact Nat.le_refl 2
  · split
    · exact Nat.le_refl 2
    · split
      · exact Nat.le_refl 2
      · exact (by omega : 1 ≤ 2)
theorem qR_len (x : Str) (h : x.length ≤ 5) : (qR x).length ≤ 20 := qt_len eR_len h
theorem qN_len (x : Str) (h : x.length ≤ 5) : (qN x).length ≤ 20 := qt_len eN_len h

/-! ### a datum in the heap, to a depth -/
/-- a flat value -/
def atV : PyData → Option V
  | .none => some .non
  | .bool b => some (.bl b)
  | .int i => some (.int i)
  | .str x => some (.str x)
  | _ => none
def IsD (H : Hp) : Nat → V → PyData → Prop
  | 0, v, d => atV d = some v
  | n + 1, v, d => atV d = some v ∨
    (∃ p vs xs, v = .ref p ∧ d = .list xs ∧ H p = some (.lst vs) ∧ Paired (IsD H n) vs xs) ∨
    (∃ p vs xs, v = .ref p ∧ d = .tuple xs ∧ H p = some (.tup vs) ∧ Paired (IsD H n) vs xs) ∨
    (∃ (p : Addr) (ks : List (Key × V)) (ds : Mp), v = .ref p ∧ d = .dict (ds.map fun q => (.str q.1, q.2)) ∧ Rd H p (.dK ks) ∧ Paired (fun a b => a.1 = .inr b.1 ∧ IsD H n a.2 b.2) ks ds)
/-- a dict's pairs -/
abbrev KvD (H : Hp) (n : Nat) : List (Key × V) → Mp → Prop := Paired fun a b => a.1 = .inr b.1 ∧ IsD H n a.2 b.2
theorem IsD.mono {H H' : Hp} (s : RdS H H') : ∀ {n : Nat} {v : V} {d : PyData}, IsD H n v d → IsD H' n v d
  | 0, _, _, h => h
  | n + 1, v, d, h => by
    rcases h with h | ⟨p, vs, xs, e1, e2, hr, hp⟩ | ⟨p, vs, xs, e1, e2, hr, hp⟩ | ⟨p, ks, ds, e1, e2, hr, hp⟩
    · exact .inl h
    · exact .inr (.inl ⟨p, vs, xs, e1, e2, s.lst p _ hr, Paired.mapP hp fun _ _ q => IsD.mono s q⟩)
    · exact .inr (.inr (.inl ⟨p, vs, xs, e1, e2, s.tup p _ hr, Paired.mapP hp fun _ _ q => IsD.mono s q⟩))
    · exact .inr (.inr (.inr ⟨p, ks, ds, e1, e2, s.rd p _ rfl hr, Paired.mapP hp fun _ _ q => ⟨q.1, IsD.mono s q.2⟩⟩))
theorem IsD.up {H : Hp} : ∀ {n : Nat} {v : V} {d : PyData}, IsD H n v d → IsD H (n + 1) v d
  | 0, _, _, h => .inl h
  | n + 1, v, d, h => by
    rcases h with h | ⟨p, vs, xs, e1, e2, hr, hp⟩ | ⟨p, vs, xs, e1, e2, hr, hp⟩ | ⟨p, ks, ds, e1, e2, hr, hp⟩
    · exact .inl h
    · exact .inr (.inl ⟨p, vs, xs, e1, e2, hr, Paired.mapP hp fun _ _ q => IsD.up q⟩)
    · exact .inr (.inr (.inl ⟨p, vs, xs, e1, e2, hr, Paired.mapP hp fun _ _ q => IsD.up q⟩))
    · exact .inr (.inr (.inr ⟨p, ks, ds, e1, e2, hr, Paired.mapP hp fun _ _ q => ⟨q.1, IsD.up q.2⟩⟩))
theorem IsD.flat {H : Hp} {n : Nat} {v : V} {d : PyData} (h : atV d = some v) : IsD H n v d := by
  cases n with
  | zero => exact h
  | succ n => exact .inl h
theorem KvD.mono {H H' : Hp} (s : RdS H H') {n : Nat} {ks : List (Key × V)} {m : Mp} (h : KvD H n ks m) : KvD H' n ks m := Paired.mapP h fun _ _ q => ⟨q.1, q.2.mono s⟩
theorem KvD.length {H : Hp} {n : Nat} {ks : List (Key × V)} {m : Mp} (h : KvD H n ks m) : ks.length = m.length := Paired.length h
theorem KvD.look {H : Hp} {n : Nat} {ks : List (Key × V)} {m : Mp} (h : KvD H n ks m) (k : Str) :
    (lk m k = none ∧ valV ks (.inr k : Key) = none) ∨ ∃ x v, lk m k = some x ∧ valV ks (.inr k : Key) = some v ∧ IsD H n v x := by
  unfold KvD at h
  induction h with
  | nil => exact .inl ⟨rfl, rfl⟩
  | cons q t ih =>
    rename_i a b as bs
    obtain ⟨e, d⟩ := q
    by_cases c : b.1 = k
    · refine .inr ⟨b.2, a.2, lk_pos c, valV_pos (by rw [e, c]), d⟩
    · have c' : ¬ a.1 = (.inr k : Key) := fun z => c (Sum.inr.inj (e.symm.trans z))
      rw [lk_neg c, valV_neg c']
      exact ih
theorem KvD.any {H : Hp} {n : Nat} {ks : List (Key × V)} {m : Mp} (h : KvD H n ks m) (k : Str) : (ks.any fun p => decide (p.1 = (.inr k : Key))) = (m.any fun p => decide (p.1 = k)) := by
  rw [valV_any, lk_any]
  rcases h.look k with ⟨a, b⟩ | ⟨x, v, a, b, _⟩ <;> rw [a, b] <;> rfl
theorem KvD.put {H : Hp} {n : Nat} {ks : List (Key × V)} {m : Mp} (h : KvD H n ks m) {k : Str} {v : V} {x : PyData} (hv : IsD H n v x) : KvD H n (putK ks (.inr k : Key) v) (putM m k x) := by
  unfold putK putM
  rw [h.any k]
  split
  · unfold KvD at h ⊢
    rename_i hany
    clear hany
    induction h with
    | nil => exact .nil
    | cons q t ih =>
      rename_i a b as bs
      obtain ⟨e, d⟩ := q
      rw [List.map_cons, List.map_cons]
      refine .cons ?_ ih
      by_cases c : b.1 = k
      · rw [if_pos c, if_pos (show a.1 = (.inr k : Key) by rw [e, c])]
        exact ⟨e, hv⟩
      · rw [if_neg c, if_neg (fun z : a.1 = (.inr k : Key) => c (Sum.inr.inj (e.symm.trans z)))]
        exact ⟨e, d⟩
  · unfold KvD at h ⊢
    rename_i hany
    clear hany
    induction h with
    | nil => exact .cons ⟨rfl, hv⟩ .nil
    | cons q t ih => exact .cons q ih
theorem KvD.filter {H : Hp} {n : Nat} {ks : List (Key × V)} {m : Mp} (h : KvD H n ks m) {P : Key × V → Bool} {P' : Str × PyData → Bool} (hp : ∀ a b, a.1 = (.inr b.1 : Key) → P a = P' b) : KvD H n (ks.filter P) (m.filter P') := by
  unfold KvD at h ⊢
  induction h with
  | nil => exact .nil
  | cons q t ih =>
    rename_i a b as bs
    have e := hp a b q.1
    by_cases c : P' b = true
    · rw [List.filter_cons_of_pos (by rw [e]; exact c), List.filter_cons_of_pos c]
      exact .cons q ih
    · rw [List.filter_cons_of_neg (by rw [e]; exact c), List.filter_cons_of_neg c]
      exact ih
theorem KvD.get {H : Hp} {n : Nat} {ks : List (Key × V)} {m : Mp} (h : KvD H n ks m) {i : Nat} {k : Key} {v : V} (e : ks[i]? = some (k, v)) : ∃ j x, m[i]? = some (j, x) ∧ k = .inr j ∧ IsD H n v x := by
  obtain ⟨b, hb, q⟩ := paired_get h e
  exact ⟨b.1, b.2, hb, q.1, q.2⟩
theorem KvD.keys {H : Hp} {n : Nat} {ks : List (Key × V)} {m : Mp} (h : KvD H n ks m) : ks.map (·.1) = (keys m).map Sum.inr := by
  unfold KvD at h
  induction h with
  | nil => rfl
  | cons q t ih =>
    unfold Mw.keys at *
    rw [List.map_cons, List.map_cons, List.map_cons, ih, q.1]
theorem valV_get {β : Type} [DecidableEq β] : ∀ {ks : List (β × V)} {i : Nat} {k : β} {v : V}, (ks.map (·.1)).Nodup → ks[i]? = some (k, v) → valV ks k = some v
  | [], _, _, _, _, e => by simp at e
  | (j, u) :: r, 0, k, v, _, e => by
    cases e
    exact valV_pos (p := (j, u)) rfl
  | (j, u) :: r, i + 1, k, v, nd, e => by
    have e' : r[i]? = some (k, v) := by simpa using e
    rw [List.map_cons, List.nodup_cons] at nd
    have hm : (k, v) ∈ r := List.mem_of_getElem? e'
    have ne : ¬ j = k := fun z => nd.1 (by rw [z]; exact List.mem_map_of_mem (f := (·.1)) hm)
    rw [valV_neg (p := (j, u)) ne]
    exact valV_get nd.2 e'
theorem nodup_map {α β : Type} {f : α → β} (inj : ∀ a b, f a = f b → a = b) : ∀ {l : List α}, l.Nodup → (l.map f).Nodup
  | [], _ => .nil
  | a :: r, h => by
    rw [List.nodup_cons] at h
    rw [List.map_cons, List.nodup_cons]
    refine ⟨fun z => ?_, nodup_map inj h.2⟩
    obtain ⟨b, hb, e⟩ := List.mem_map.mp z
    exact h.1 (inj _ _ e ▸ hb)
theorem nodup_of_map {α β : Type} {f : α → β} : ∀ {l : List α}, (l.map f).Nodup → l.Nodup
  | [], _ => .nil
  | a :: r, h => by
    rw [List.map_cons, List.nodup_cons] at h
    rw [List.nodup_cons]
    exact ⟨fun z => h.1 (List.mem_map_of_mem z), nodup_of_map h.2⟩
/-- a dict's keys are each once -/
theorem KvD.nodup {H : Hp} {n : Nat} {ks : List (Key × V)} {m : Mp} (h : KvD H n ks m) (nd : (Mw.keys m).Nodup) : (ks.map (·.1)).Nodup := by
  rw [h.keys]
  exact nodup_map (fun a b e => Sum.inr.inj e) nd
theorem gd_keys {n : Nat} {ds : Mp} (h : gd (n + 1) (.dict (ds.map fun q => (.str q.1, q.2)))) : (keys ds).Nodup := by
  have h3 := h.2.2
  rw [List.map_map] at h3
  have e : ds.map ((·.1) ∘ fun q : Str × PyData => ((.str q.1, q.2) : PyData × PyData)) = (keys ds).map PyData.str := by
    unfold Mw.keys
    rw [List.map_map]
    rfl
  rw [e] at h3
  exact nodup_of_map h3

/-! ### mappings -/
def mapD (m : Mp) : PyData := .dict (m.map fun q => (.str q.1, q.2))
def MapAt (H : Hp) (d : Addr) (m : Mp) : Prop := ∃ ks, Rd H d (.dK ks) ∧ KvD H 1 ks m
theorem MapAt.mono {H H' : Hp} (s : RdS H H') {d : Addr} {m : Mp} (h : MapAt H d m) : MapAt H' d m := by
  obtain ⟨ks, hr, hp⟩ := h
  exact ⟨ks, s.rd d _ rfl hr, hp.mono s⟩
theorem MapAt.isD {H : Hp} {d : Addr} {m : Mp} (h : MapAt H d m) : IsD H 2 (.ref d) (mapD m) := by
  obtain ⟨ks, hr, hp⟩ := h
  exact .inr (.inr (.inr ⟨d, ks, m, rfl, rfl, hr, hp⟩))
structure OkM (n : Nat) (m : Mp) : Prop where
  nd : (keys m).Nodup
  len : m.length ≤ n
  key : ∀ p ∈ m, okK p.1
  val : ∀ p ∈ m, gd 1 p.2
theorem OkM.lk {n : Nat} {m : Mp} (h : OkM n m) {k : Str} {x : PyData} (e : lk m k = some x) : okK k ∧ gd 1 x := ⟨h.key _ (lk_in e), h.val _ (lk_in e)⟩
theorem OkM.mrg {a b c : Nat} {base one other : Mp} (h0 : OkM a base) (h1 : OkM b one) (h2 : OkM c other) : OkM (b + a + c) (mrg base one other) where
  nd := nd_mrg h1.nd
  len := Nat.le_trans (len_mrg _ _ _) (Nat.add_le_add (Nat.add_le_add h1.len h0.len) h2.len)
  key := fun p hp => (mem_mrg hp).elim (h1.key p) (h2.key p)
  val := fun p hp => (mem_mrg hp).elim (h1.val p) (h2.val p)
theorem mapD_good {n : Nat} {m : Mp} (h : OkM n m) : good okS (mapD m) := by
  show good okS (.dict _)
  simp only [good]
  refine goodKv_of fun p hp => ?_
  obtain ⟨q, hq, e⟩ := List.mem_map.mp hp
  rw [← e]
  refine ⟨?_, gd_good 1 _ (h.val q hq)⟩
  simp only [good]
  exact (h.key q hq).1
theorem mapD_gd {n : Nat} {m : Mp} (h : OkM n m) (hn : n ≤ 40) : gd 2 (mapD m) := by
  refine ⟨by rw [List.length_map]; exact Nat.le_trans h.len hn, fun p hp => ?_, ?_⟩
  · obtain ⟨q, hq, e⟩ := List.mem_map.mp hp
    rw [← e]
    exact ⟨⟨q.1, rfl, (h.key q hq).1, (h.key q hq).2.2⟩, h.val q hq⟩
  · rw [List.map_map]
    have e : m.map ((·.1) ∘ fun q : Str × PyData => ((.str q.1, q.2) : PyData × PyData)) = (keys m).map PyData.str := by
      unfold Mw.keys
      rw [List.map_map]
      rfl
    rw [e]
    exact nodup_map (fun a b e => PyData.str.inj e) h.nd
theorem mapD_len {qs : Str → List Nat} (hq : ∀ x : Str, x.length ≤ 5 → (qs x).length ≤ 20) {n : Nat} {m : Mp} (h : OkM n m) : (txt qs (mapD m)).length ≤ n * 5310 + 2 := by
  have h1 := jn_len (B := 5300) (ts := (m.map fun q => ((.str q.1, q.2) : PyData × PyData)).map (txtP qs)) fun t ht => by
    obtain ⟨p, hp, e⟩ := List.mem_map.mp ht
    obtain ⟨q, hq', e2⟩ := List.mem_map.mp hp
    rw [← e, ← e2]
    show (txt qs (.str q.1) ++ 58 :: 32 :: txt qs q.2).length ≤ _
    simp only [txt, List.length_append, List.length_cons]
    have a := hq q.1 (h.key q hq').2.2
    have b := txt_len hq 1 q.2 (h.val q hq')
    have c : bnd 1 = 5210 := rfl
    omega
  rw [List.length_map, List.length_map] at h1
  have hl := h.len
  have h2 : m.length * (5300 + 2) ≤ n * (5300 + 2) := Nat.mul_le_mul_right _ hl
  show (txt qs (.dict _)).length ≤ _
  simp only [txt, kv_jn, List.length_cons, List.length_append, List.length_nil]
  omega
end Mw

end

section
set_option Elab.async false
set_option linter.all false
set_option maxRecDepth 100000
/-! The text by places; the names of the top; isinstance and len of data. -/
namespace Mw
open PySem PySem.Spec PyProof.Rows L2

def top (i : Nat) : Stmt := PySem.Challenge.pw_recordshelf_k62_whole_merges.main.body.getD i (.Pass ⟨0, 0, 0, 0⟩)

/-- the built-in names are the built-ins' -/
structure Bi (mg : Str → Option Value) : Prop where
  isinstance : mg "isinstance" = none
  str : mg "str" = none
  len : mg "len" = none
  dict : mg "dict" = none
  list : mg "list" = none
  tuple : mg "tuple" = none
  bool : mg "bool" = none
  int : mg "int" = none
  abs : mg "abs" = none
  all : mg "all" = none
  range : mg "range" = none
  sorted : mg "sorted" = none
  repr : mg "repr" = none
  set : mg "set" = none
  max : mg "max" = none
  min : mg "min" = none
  enumerate : mg "enumerate" = none
/-- the module's constants -/
structure Co (mg : Str → Option Value) : Prop where
  digits : ∃ t, mg "MOST_DIGITS" = some (.int 100 t)
  items : ∃ t, mg "MOST_ITEMS" = some (.int 10000 t)
  levels : ∃ t, mg "MOST_LEVELS" = some (.int 20 t)
  key : ∃ t, mg "MOST_KEY" = some (.int 200 t)
/-- a def of the top -/
structure Df (K : PySem.W.Frag) (mg : Str → Option Value) (x : Str) (st : Stmt) (ps : List Str) (f : Addr) (fd : FuncData) : Prop where
  fn : Fun K x x st f fd
  m : mg x = some (.ref f)
  b : Binds K fd ps []

/-! ### a datum's type -/
def tyN : PyData → String
  | .none => "NoneType"
  | .bool _ => "bool"
  | .int _ => "int"
  | .str _ => "str"
  | .list _ => "list"
  | .tuple _ => "tuple"
  | .dict _ => "dict"
theorem tyX_of {K : PySem.W.Frag} {H : Hp} {n : Nat} {v : V} {d : PyData} (h : IsD H n v d) : TyX K H v (.type (tyN d)) := by
  have flat : atV d = some v → TyX K H v (.type (tyN d)) := fun e => by
    cases d <;> simp only [atV, Option.some.injEq, reduceCtorEq] at e <;> subst e
    · exact .base .non
    · exact .base (.bl _)
    · exact .base (.int _)
    · exact .base (.str _)
  cases n with
  | zero => exact flat h
  | succ n =>
    rcases h with h | ⟨p, vs, xs, e1, e2, hr, _⟩ | ⟨p, vs, xs, e1, e2, hr, _⟩ | ⟨p, ks, ds, e1, e2, hr, _⟩
    · exact flat h
    · subst e1 e2
      exact .base (.lst hr)
    · subst e1 e2
      exact .base (.tup hr)
    · subst e1 e2
      rcases hr with hr | ⟨o, hr⟩
      · exact .base (.dK hr)
      · exact .fDict hr
theorem isi1 {K : PySem.W.Frag} {H : Hp} {n : Nat} {v : V} {d : PyData} (h : IsD H n v d) {T : String} {b : Bool} (e : kitB (tyN d) T = some b) {Q : VK} (q : Q (.bl b) H) : rIsi K [v, .ty T] H Q :=
  ⟨v, .ty T, _, _, b, rfl, .ty T, tyX_of h, kit_ty e, q⟩
theorem tys_of : ∀ Ts : List String, Paired ClsV (Ts.map V.ty) (Ts.map Value.type)
  | [] => .nil
  | T :: r => .cons (.ty T) (tys_of r)
/-- one of several types -/
def kitL (a : String) : List String → Option Bool
  | [] => some false
  | b :: r => match kitB a b with
    | some true => some true
    | some false => kitL a r
    | none => none
theorem kb_NoneType_str : kitB "NoneType" "str" = some false := by decide +kernel
theorem kb_NoneType_list : kitB "NoneType" "list" = some false := by decide +kernel
theorem kb_NoneType_tuple : kitB "NoneType" "tuple" = some false := by decide +kernel
theorem kb_NoneType_dict : kitB "NoneType" "dict" = some false := by decide +kernel
theorem kb_NoneType_bool : kitB "NoneType" "bool" = some false := by decide +kernel
theorem kb_NoneType_int : kitB "NoneType" "int" = some false := by decide +kernel
theorem kb_bool_str : kitB "bool" "str" = some false := by decide +kernel
theorem kb_bool_list : kitB "bool" "list" = some false := by decide +kernel
theorem kb_bool_tuple : kitB "bool" "tuple" = some false := by decide +kernel
theorem kb_bool_dict : kitB "bool" "dict" = some false := by decide +kernel
theorem kb_bool_bool : kitB "bool" "bool" = some true := by decide +kernel
theorem kb_bool_int : kitB "bool" "int" = some true := by decide +kernel
theorem kb_int_str : kitB "int" "str" = some false := by decide +kernel
theorem kb_int_list : kitB "int" "list" = some false := by decide +kernel
theorem kb_int_tuple : kitB "int" "tuple" = some false := by decide +kernel
theorem kb_int_dict : kitB "int" "dict" = some false := by decide +kernel
theorem kb_int_bool : kitB "int" "bool" = some false := by decide +kernel
theorem kb_int_int : kitB "int" "int" = some true := by decide +kernel
theorem kb_str_str : kitB "str" "str" = some true := by decide +kernel
theorem kb_str_list : kitB "str" "list" = some false := by decide +kernel
theorem kb_str_tuple : kitB "str" "tuple" = some false := by decide +kernel
theorem kb_str_dict : kitB "str" "dict" = some false := by decide +kernel
theorem kb_str_bool : kitB "str" "bool" = some false := by decide +kernel
theorem kb_str_int : kitB "str" "int" = some false := by decide +kernel
theorem kb_list_str : kitB "list" "str" = some false := by decide +kernel
theorem kb_list_list : kitB "list" "list" = some true := by decide +kernel
theorem kb_list_tuple : kitB "list" "tuple" = some false := by decide +kernel
theorem kb_list_dict : kitB "list" "dict" = some false := by decide +kernel
theorem kb_list_bool : kitB "list" "bool" = some false := by decide +kernel
theorem kb_list_int : kitB "list" "int" = some false := by decide +kernel
theorem kb_tuple_str : kitB "tuple" "str" = some false := by decide +kernel
theorem kb_tuple_list : kitB "tuple" "list" = some false := by decide +kernel
theorem kb_tuple_tuple : kitB "tuple" "tuple" = some true := by decide +kernel
theorem kb_tuple_dict : kitB "tuple" "dict" = some false := by decide +kernel
theorem kb_tuple_bool : kitB "tuple" "bool" = some false := by decide +kernel
theorem kb_tuple_int : kitB "tuple" "int" = some false := by decide +kernel
theorem kb_dict_str : kitB "dict" "str" = some false := by decide +kernel
theorem kb_dict_list : kitB "dict" "list" = some false := by decide +kernel
theorem kb_dict_tuple : kitB "dict" "tuple" = some false := by decide +kernel
theorem kb_dict_dict : kitB "dict" "dict" = some true := by decide +kernel
theorem kb_dict_bool : kitB "dict" "bool" = some false := by decide +kernel
theorem kb_dict_int : kitB "dict" "int" = some false := by decide +kernel
theorem kl_lt_NoneType : kitL "NoneType" ["list", "tuple"] = some false := by decide +kernel
theorem kl_lt_bool : kitL "bool" ["list", "tuple"] = some false := by decide +kernel
theorem kl_lt_int : kitL "int" ["list", "tuple"] = some false := by decide +kernel
theorem kl_lt_str : kitL "str" ["list", "tuple"] = some false := by decide +kernel
theorem kl_lt_list : kitL "list" ["list", "tuple"] = some true := by decide +kernel
theorem kl_lt_tuple : kitL "tuple" ["list", "tuple"] = some true := by decide +kernel
theorem kl_lt_dict : kitL "dict" ["list", "tuple"] = some false := by decide +kernel
theorem kl_ltd_NoneType : kitL "NoneType" ["list", "tuple", "dict"] = some false := by decide +kernel
theorem kl_ltd_bool : kitL "bool" ["list", "tuple", "dict"] = some false := by decide +kernel
theorem kl_ltd_int : kitL "int" ["list", "tuple", "dict"] = some false := by decide +kernel
theorem kl_ltd_str : kitL "str" ["list", "tuple", "dict"] = some false := by decide +kernel
theorem kl_ltd_list : kitL "list" ["list", "tuple", "dict"] = some true := by decide +kernel
theorem kl_ltd_tuple : kitL "tuple" ["list", "tuple", "dict"] = some true := by decide +kernel
theorem kl_ltd_dict : kitL "dict" ["list", "tuple", "dict"] = some true := by decide +kernel
theorem kitL_ok {K : PySem.W.Frag} {a : String} : ∀ {Ts : List String} {b : Bool}, kitL a Ts = some b → PySem.W.kitAny K (.type a) (Ts.map Value.type) = some b
  | [], b, h => by
    have e : false = b := Option.some.inj h
    subst e
    exact kitAny_nil
  | T :: r, b, h => by
    unfold kitL at h
    cases e : kitB a T with
    | none => rw [e] at h; cases h
    | some c =>
      rw [e] at h
      cases c with
      | true =>
        have e' : true = b := Option.some.inj h
        subst e'
        exact kitAny_cons (kit_ty e) (fun z => nomatch z) fun _ => rfl
      | false => exact kitAny_cons (kit_ty e) (fun _ => kitL_ok h) fun z => nomatch z
def isStr : PyData → Bool
  | .str _ => true
  | _ => false
theorem kStr : ∀ d, kitB (tyN d) "str" = some (isStr d)
  | .none => kb_NoneType_str
  | .bool _ => kb_bool_str
  | .int _ => kb_int_str
  | .str _ => kb_str_str
  | .list _ => kb_list_str
  | .tuple _ => kb_tuple_str
  | .dict _ => kb_dict_str
def isLi : PyData → Bool
  | .list _ => true
  | _ => false
theorem kLi : ∀ d, kitB (tyN d) "list" = some (isLi d)
  | .none => kb_NoneType_list
  | .bool _ => kb_bool_list
  | .int _ => kb_int_list
  | .str _ => kb_str_list
  | .list _ => kb_list_list
  | .tuple _ => kb_tuple_list
  | .dict _ => kb_dict_list
def isTu : PyData → Bool
  | .tuple _ => true
  | _ => false
theorem kTu : ∀ d, kitB (tyN d) "tuple" = some (isTu d)
  | .none => kb_NoneType_tuple
  | .bool _ => kb_bool_tuple
  | .int _ => kb_int_tuple
  | .str _ => kb_str_tuple
  | .list _ => kb_list_tuple
  | .tuple _ => kb_tuple_tuple
  | .dict _ => kb_dict_tuple
def isDi : PyData → Bool
  | .dict _ => true
  | _ => false
theorem kDi : ∀ d, kitB (tyN d) "dict" = some (isDi d)
  | .none => kb_NoneType_dict
  | .bool _ => kb_bool_dict
  | .int _ => kb_int_dict
  | .str _ => kb_str_dict
  | .list _ => kb_list_dict
  | .tuple _ => kb_tuple_dict
  | .dict _ => kb_dict_dict
def isBo : PyData → Bool
  | .bool _ => true
  | _ => false
theorem kBo : ∀ d, kitB (tyN d) "bool" = some (isBo d)
  | .none => kb_NoneType_bool
  | .bool _ => kb_bool_bool
  | .int _ => kb_int_bool
  | .str _ => kb_str_bool
  | .list _ => kb_list_bool
  | .tuple _ => kb_tuple_bool
  | .dict _ => kb_dict_bool
def isIn : PyData → Bool
  | .bool _ => true
  | .int _ => true
  | _ => false
theorem kIn : ∀ d, kitB (tyN d) "int" = some (isIn d)
  | .none => kb_NoneType_int
  | .bool _ => kb_bool_int
  | .int _ => kb_int_int
  | .str _ => kb_str_int
  | .list _ => kb_list_int
  | .tuple _ => kb_tuple_int
  | .dict _ => kb_dict_int
def isLT : PyData → Bool
  | .list _ => true
  | .tuple _ => true
  | _ => false
theorem kLT : ∀ d, kitL (tyN d) ["list", "tuple"] = some (isLT d)
  | .none => kl_lt_NoneType
  | .bool _ => kl_lt_bool
  | .int _ => kl_lt_int
  | .str _ => kl_lt_str
  | .list _ => kl_lt_list
  | .tuple _ => kl_lt_tuple
  | .dict _ => kl_lt_dict
def isLTD : PyData → Bool
  | .list _ => true
  | .tuple _ => true
  | .dict _ => true
  | _ => false
theorem kLTD : ∀ d, kitL (tyN d) ["list", "tuple", "dict"] = some (isLTD d)
  | .none => kl_ltd_NoneType
  | .bool _ => kl_ltd_bool
  | .int _ => kl_ltd_int
  | .str _ => kl_ltd_str
  | .list _ => kl_ltd_list
  | .tuple _ => kl_ltd_tuple
  | .dict _ => kl_ltd_dict
theorem isiT {K : PySem.W.Frag} {H : Hp} {n : Nat} {v : V} {d : PyData} {p : Addr} (h : IsD H n v d) {Ts : List String} (hp : H p = some (.tup (Ts.map V.ty))) {b : Bool} (e : kitL (tyN d) Ts = some b) {Q : VK} (q : Q (.bl b) H) : rIsiT K [v, .ref p] H Q :=
  ⟨v, p, _, _, _, b, rfl, hp, tys_of Ts, tyX_of h, kitL_ok e, q⟩
/-! ### len -/
def LenA (K : PySem.W.Frag) (v : V) (H : Hp) (n : Nat) : Prop := LenV K v H n ∨ ∃ a kvs, v = .ref a ∧ Rd H a (.dK kvs) ∧ n = kvs.length
theorem call_lenA {X : Cx} : CallR X (.builtin "len") (fun xs H Q => ∃ v n, xs = [v] ∧ LenA X.K v H n ∧ Q (.int n) H) := by
  intro pins s σ H xs us Q I r h
  obtain ⟨v, n, rfl, l, q⟩ := h
  rcases l with l | ⟨a, kvs, rfl, hd, rfl⟩
  · exact call_len pins s σ H [v] us Q I r ⟨v, n, rfl, l, q⟩
  · obtain ⟨u, rfl, ru⟩ := vals1 r
    cases ru
    exact d_len I hd fun t s' I' => ⟨.int kvs.length, H, I', ⟨t, rfl⟩, q⟩
/-- a container's number of items -/
def lenD : PyData → Nat
  | .list xs => xs.length
  | .tuple xs => xs.length
  | .dict kvs => kvs.length
  | _ => 0
theorem lenA_of {K : PySem.W.Frag} {H : Hp} {n : Nat} {v : V} {d : PyData} (h : IsD H n v d) (hc : 4 ≤ kd d) : LenA K v H (lenD d) := by
  have flat : atV d = some v → LenA K v H (lenD d) := fun e => by
    cases d <;> simp only [atV, Option.some.injEq, reduceCtorEq] at e <;> simp [kd] at hc
  cases n with
  | zero => exact flat h
  | succ n =>
    rcases h with h | ⟨p, vs, xs, e1, e2, hr, hp⟩ | ⟨p, vs, xs, e1, e2, hr, hp⟩ | ⟨p, ks, ds, e1, e2, hr, hp⟩
    · exact flat h
    · subst e1 e2
      exact .inl (.inl ⟨vs, SqL.of hr, (Paired.length hp).symm⟩)
    · subst e1 e2
      exact .inl (.inr ⟨vs, SqT.of hr, (Paired.length hp).symm⟩)
    · subst e1 e2
      refine .inr ⟨p, ks, rfl, hr, ?_⟩
      show (ds.map _).length = _
      rw [List.length_map]
      exact (Paired.length hp).symm
theorem le_line {n : Nat} (h : n ≤ 16000000) : n ≤ sizeLine := by rw [sizeLine_eq]; omega
theorem lt_line {n : Nat} (h : n ≤ 16000000) : n < sizeLine := by rw [sizeLine_eq]; omega
theorem call_isiK {X : Cx} {K : PySem.W.Frag} (e : X.K = K) : CallR X (.builtin "isinstance") (rIsi K) := by
  subst e
  exact call_isi
theorem l0_line : ([] : List V).length ≤ sizeLine := le_line (by show 0 ≤ _; omega)
theorem l1_line {a : V} : [a].length ≤ sizeLine := le_line (by show 1 ≤ _; omega)
theorem l2_line {a b : V} : [a, b].length ≤ sizeLine := le_line (by show 2 ≤ _; omega)
theorem l3_line {a b c : V} : [a, b, c].length ≤ sizeLine := le_line (by show 3 ≤ _; omega)

theorem ifT {c : Bool} {A B : Prop} (hc : c = true) (h : A) : if c = true then A else B := by
  rw [if_pos hc]
  exact h
theorem ifF {c : Bool} {A B : Prop} (hc : c = false) (h : B) : if c = true then A else B := by
  rw [hc, if_neg Bool.false_ne_true]
  exact h
theorem qb {Q : VK} {H : Hp} {b c : Bool} (e : b = c) (q : Q (.bl c) H) : Q (.bl b) H := by
  rw [e]
  exact q
theorem take_succ {α : Type} {l : List α} {i : Nat} {x : α} (h : l[i]? = some x) : l.take (i + 1) = l.take i ++ [x] := by
  rw [List.take_add_one, h]
  rfl
theorem paired_app {α β : Type} {F : α → β → Prop} : ∀ {a : List α} {b : List β} {x : α} {y : β}, Paired F a b → F x y → Paired F (a ++ [x]) (b ++ [y])
  | _, _, _, _, .nil, h => .cons h .nil
  | _, _, _, _, .cons r t, h => .cons r (paired_app t h)
theorem paired_mem {α β : Type} {F : α → β → Prop} : ∀ {a : List α} {b : List β}, Paired F a b → ∀ x ∈ a, ∃ y ∈ b, F x y
  | _, _, .cons r t, x, h => by
    rcases List.mem_cons.mp h with e | h
    · exact ⟨_, List.mem_cons_self, e ▸ r⟩
    · obtain ⟨y, hy, f⟩ := paired_mem t x h
      exact ⟨y, List.mem_cons_of_mem _ hy, f⟩
end Mw

end

section
set_option Elab.async false
set_option linter.all false
set_option maxRecDepth 100000
/-! list(enumerate(v)), v a list or a tuple. -/
namespace Mw
open PySem PySem.Spec PyProof.Rows PySem.W

/-- an enumerate object at e over the iterator at it, c counted; its last tuple is given out, or none is -/
def EnIs (h : Heap) (e it S : Addr) (c : Int) : Prop :=
  (∃ old, IsEnum h e it c old) ∨ ∃ (a : Addr) (f : Bool) (old : Value) (oa : Obj), h.get? e = some { cls := .type "enumerate", dict := none, data := .fields #[rawInt a, .bool f, .ref it, rawInt c, .none, old], slots := #[] } ∧
    h.get? a = some oa ∧ a ≠ e ∧ a ≠ it ∧ a ≠ S
theorem EnIs.keep {h h' : Heap} {e it S : Addr} {c : Int} (x : EnIs h e it S c) (k : ∀ b o, b ≠ S → h.get? b = some o → h'.get? b = some o) (he : e ≠ S) : EnIs h' e it S c := by
  rcases x with ⟨old, x⟩ | ⟨a, f, old, oa, x, ha, h1, h2, h3⟩
  · exact .inl ⟨old, k e _ he x⟩
  · exact .inr ⟨a, f, old, oa, k e _ he x, k a oa h3 ha, h1, h2, h3⟩
theorem EnIs.lt {h : Heap} {e it S : Addr} {c : Int} (x : EnIs h e it S c) : e < h.objs.size := by
  rcases x with ⟨old, x⟩ | ⟨a, f, old, oa, x, _⟩
  · exact Heap.lt_size x
  · exact Heap.lt_size x
theorem EnIs.typeIs {s : Shared} {e it S : Addr} {c : Int} (x : EnIs s.heap e it S c) : s.TypeIs (.ref e) "enumerate" := by
  rcases x with ⟨old, x⟩ | ⟨a, f, old, oa, x, _⟩
  · exact ⟨_, x, rfl⟩
  · exact ⟨_, x, rfl⟩
section
variable {prog : Program} {w : World} {A : Around} {E : Value → Shared → Prop} {s : Shared}
/-- next, its last tuple given out -/
theorem enum_next_out {e it : Addr} {fp : List Addr} {n i : Nat} {c : Int} {P : Nat → Value → Prop} {St : Nat → Heap → Prop} {old : Value} {a : Addr} {f : Bool} {oa : Obj} {Q : Value → Shared → Prop}
    (D : Draws prog w A it fp n P St) (he : s.heap.get? e = some { cls := .type "enumerate", dict := none, data := .fields #[rawInt a, .bool f, .ref it, rawInt c, .none, old], slots := #[] })
    (ha : s.heap.get? a = some oa) (hae : a ≠ e) (hai : a ≠ it) (hst : St i s.heap) (hlt : i < n) (hne : e ≠ it) (hef : e ∉ fp)
    (hQ : ∀ x h' tk, P i x → h'.get? e = some { cls := .type "enumerate", dict := none, data := .fields #[rawInt a, .bool true, .ref it, rawInt (c + 1), .none, old], slots := #[] } → St (i + 1) h' →
      h'.get? s.heap.objs.size = some { cls := .type "tuple", data := .seq #[.int c tk, x] } → h'.objs.size = s.heap.objs.size + 1 →
      (∀ b o, b ≠ e → b ≠ it → s.heap.get? b = some o → h'.get? b = some o) → Q (.ref s.heap.objs.size) { s with heap := h', toks := tk + 1 }) :
    wpAny (model prog w) A (Builtin.«enumerate.__next__» ⟨[.ref e], []⟩) (fun fin s' => ∃ v, fin = .done (.ret v) ∧ Q v s') E s := by
  obtain ⟨hp, g, d, tk₀, os⟩ := s
  show wpAny _ _ (field (.ref e) 2 >>= _) _ _ _
  refine wpAny_bind (wpAny_field he rfl (x := .ref it) rfl ?_)
  refine wpAny_bind (D.item i _ _ _ hlt hst fun x h₁ tk hPx hit₁ hs₁ => ?_)
  replace hs₁ : Heap.SameBut it hp h₁ := hs₁
  have he₁ : h₁.get? e = some { cls := .type "enumerate", dict := none, data := .fields #[rawInt a, .bool f, .ref it, rawInt c, .none, old], slots := #[] } := (hs₁.2 e hne).trans he
  show wpAny _ _ (field (.ref e) 3 >>= _) _ _ ⟨h₁, g, d, tk, os⟩
  refine wpAny_bind (wpAny_field he₁ rfl (x := rawInt c) rfl ?_)
  show wpAny _ _ (field (.ref e) 4 >>= _) _ _ ⟨h₁, g, d, tk, os⟩
  refine wpAny_bind (wpAny_field he₁ rfl (x := .none) rfl ?_)
  show wpAny _ _ (mkInt c >>= _) _ _ ⟨h₁, g, d, tk, os⟩
  refine wpAny_bind (wpAny_mkInt ?_)
  show wpAny _ _ (setField (.ref e) 3 (rawInt (c + 1)) >>= _) _ _ ⟨h₁, g, d, tk + 1, os⟩
  refine wpAny_bind (wpAny_setField_rec he₁ (by simp) fun h₂ he₂ hs₂ => ?_)
  replace hs₂ : Heap.SameBut e h₁ h₂ := hs₂
  replace he₂ : h₂.get? e = some { cls := .type "enumerate", dict := none, data := .fields #[rawInt a, .bool f, .ref it, rawInt (c + 1), .none, old], slots := #[] } := he₂
  show wpAny _ _ (setField (.ref e) 4 .none >>= _) _ _ ⟨h₂, g, d, tk + 1, os⟩
  refine wpAny_bind (wpAny_setField_rec he₂ (by simp) fun h₃ he₃ hs₃ => ?_)
  replace hs₃ : Heap.SameBut e h₂ h₃ := hs₃
  replace he₃ : h₃.get? e = some { cls := .type "enumerate", dict := none, data := .fields #[rawInt a, .bool f, .ref it, rawInt (c + 1), .none, old], slots := #[] } := he₃
  show wpAny _ _ (newTuple [.int c tk, x] >>= _) _ _ ⟨h₃, g, d, tk + 1, os⟩
  refine wpAny_bind (wpAny_newTuple ?_)
  have he₄ : (h₃.push { cls := .type "tuple", data := .seq #[.int c tk, x] }).get? e = some { cls := .type "enumerate", dict := none, data := .fields #[rawInt a, .bool f, .ref it, rawInt (c + 1), .none, old], slots := #[] } := Heap.get?_push_of_some _ he₃
  generalize hh₄ : h₃.push { cls := .type "tuple", data := .seq #[.int c tk, x] } = h₄ at he₄
  have hsz : h₃.objs.size = hp.objs.size := by rw [hs₃.1, hs₂.1, hs₁.1]
  have hel : e < hp.objs.size := Heap.lt_size he
  have ht₄ : h₄.get? hp.objs.size = some { cls := .type "tuple", data := .seq #[.int c tk, x] } := by rw [← hh₄, ← hsz]; exact Heap.get?_push_size _ rfl
  have hz₄ : h₄.objs.size = hp.objs.size + 1 := by rw [← hh₄, Heap.size_push, hsz]
  have hk₄ : ∀ b o, b ≠ e → b ≠ it → hp.get? b = some o → h₄.get? b = some o := fun b o hbe hbi hb => by
    rw [← hh₄]; exact Heap.get?_push_of_some _ (hs₃.extBut b o hbe (hs₂.extBut b o hbe (hs₁.extBut b o hbi hb)))
  have hit₄ : St (i + 1) h₄ := D.frame _ _ _ hit₁ fun b hb o y => by
    have hbe : b ≠ e := fun q => hef (q ▸ hb)
    rw [← hh₄]; exact Heap.get?_push_of_some _ (hs₃.extBut b o hbe (hs₂.extBut b o hbe y))
  have ha₄ : h₄.get? a = some oa := hk₄ a oa hae hai ha
  show wpAny _ _ (Builtin.SmallTypes.ownedTupleIsFree (.ref e) >>= _) _ _ ⟨h₄, g, d, tk + 1, os⟩
  rw [hsz]
  clear hh₄ he₃ hs₃ he₂ hs₂ he₁ hs₁ hit₁ hsz h₃ h₂ h₁
  refine wpAny_bind ?_
  unfold Builtin.SmallTypes.ownedTupleIsFree
  refine wpAny_bind (wpAny_field he₄ rfl (x := rawInt a) rfl ?_)
  show wpAny _ _ (loadIfAlive ((a : Int).toNat) >>= _) _ _ _
  rw [Int.toNat_natCast]
  refine wpAny_bind (kdx_alive ha₄ ?_)
  simp only [Option.isNone_some, Bool.false_eq_true, if_false]
  refine wpAny_bind (wpAny_field he₄ rfl (x := .bool f) rfl ?_)
  have fin : ∀ h₅ : Heap, h₅.get? e = some { cls := .type "enumerate", dict := none, data := .fields #[rawInt a, .bool true, .ref it, rawInt (c + 1), .none, old], slots := #[] } → Heap.SameBut e h₄ h₅ → Q (.ref hp.objs.size) ⟨h₅, g, d, tk + 1, os⟩ := fun h₅ he₅ hs₅ =>
    hQ x h₅ tk hPx he₅ (D.frame _ _ _ hit₄ fun b hb o y => hs₅.extBut b o (fun q => hef (q ▸ hb)) y) (hs₅.extBut _ _ (Nat.ne_of_gt hel) ht₄) (by show h₅.objs.size = hp.objs.size + 1; rw [hs₅.1, hz₄])
      fun b o hbe hbi hb => hs₅.extBut b o hbe (hk₄ b o hbe hbi hb)
  cases f with
  | true =>
    rw [if_neg (show ¬ ((Value.bool true != Value.bool true) = true) from Bool.false_ne_true)]
    refine wpAny_pure ?_
    simp only [Bool.false_eq_true, if_false]
    exact wpAny_pure ⟨_, rfl, fin h₄ he₄ (Heap.SameBut.refl _ _)⟩
  | false =>
    rw [if_pos (show (Value.bool false != Value.bool true) = true from rfl)]
    refine wpAny_bind (wpAny_setField_rec he₄ (by simp) fun h₅ he₅ hs₅ => ?_)
    replace hs₅ : Heap.SameBut e h₄ h₅ := hs₅
    refine wpAny_pure ?_
    simp only [Bool.false_eq_true, if_false]
    exact wpAny_pure ⟨_, rfl, fin h₅ he₅ hs₅⟩
/-- one next -/
theorem enum_next {e it S : Addr} {fp : List Addr} {n i : Nat} {c : Int} {P : Nat → Value → Prop} {St : Nat → Heap → Prop} {Q : Option Value → Shared → Prop}
    (D : Draws prog w A.in1 it fp n P St) (he : EnIs s.heap e it S c) (hS : S < s.heap.objs.size) (hst : St i s.heap) (hlt : i < n) (hne : e ≠ it) (hef : e ∉ fp)
    (hQ : ∀ x h' tk, P i x → EnIs h' e it S (c + 1) → St (i + 1) h' → h'.get? s.heap.objs.size = some { cls := .type "tuple", data := .seq #[.int c tk, x] } → h'.objs.size = s.heap.objs.size + 1 →
      (∀ b o, b ≠ e → b ≠ it → s.heap.get? b = some o → h'.get? b = some o) → Q (some (.ref s.heap.objs.size)) { s with heap := h', toks := tk + 1 }) :
    wpAny (model prog w) A (pyNext (.ref e)) Q E s := by
  have hT := he.typeIs
  have hel := he.lt
  have hil : it < s.heap.objs.size := let ⟨_, y⟩ := D.live _ _ hst; Heap.lt_size y
  unfold pyNext
  rcases he with ⟨old, he⟩ | ⟨a, f, old, oa, he, ha, h1, h2, h3⟩
  · exact wpAny_bind (wpAny_attempt (wpAny_callSpecial?_slot (name := Str.ofString "__next__") hT F.slot_enumerate_next
      (wpAny_call_entry F.slot_enumerate_next hT F.entry_enumerate_next
        (enumerate_next_itemC D he hst hlt hne hef fun x h' tk p a b c' d k => wpAny_pure (hQ x h' tk p (.inr ⟨_, _, _, _, a, c', Nat.ne_of_gt hel, Nat.ne_of_gt hil, Nat.ne_of_gt hS⟩) b c' d k)) (F.args_enumerate_next_1 _))))
  · exact wpAny_bind (wpAny_attempt (wpAny_callSpecial?_slot (name := Str.ofString "__next__") hT F.slot_enumerate_next
      (wpAny_call_entry F.slot_enumerate_next hT F.entry_enumerate_next
        (enum_next_out D he ha h1 h2 hst hlt hne hef fun x h' tk p q b c' d k => wpAny_pure (hQ x h' tk p (.inr ⟨_, _, _, _, q, k a oa h1 h2 ha, h1, h2, h3⟩) b c' d k)) (F.args_enumerate_next_1 _))))
theorem enum_end {e it S : Addr} {fp : List Addr} {n : Nat} {c : Int} {P : Nat → Value → Prop} {St : Nat → Heap → Prop} {Q : Option Value → Shared → Prop}
    (D : Draws prog w A.in1 it fp n P St) (he : EnIs s.heap e it S c) (hst : St n s.heap) (hQ : ∀ h', Heap.ExtBut it s.heap h' → Q none { s with heap := h' }) : wpAny (model prog w) A (pyNext (.ref e)) Q E s := by
  have hT := he.typeIs
  have hf : ∃ o fs, s.heap.get? e = some o ∧ o.data = .fields fs ∧ fs[2]? = some (.ref it) := by
    rcases he with ⟨old, he⟩ | ⟨a, f, old, oa, he, _⟩
    · exact ⟨_, _, he, rfl, rfl⟩
    · exact ⟨_, _, he, rfl, rfl⟩
  obtain ⟨o, fs, ho, hd, h2⟩ := hf
  unfold pyNext
  refine wpAny_bind (wpAny_attempt (wpAny_callSpecial?_slot (name := Str.ofString "__next__") hT F.slot_enumerate_next
    (wpAny_call_entry F.slot_enumerate_next hT F.entry_enumerate_next ?_ (F.args_enumerate_next_1 _))))
  show wpAny _ _ (field (.ref e) 2 >>= _) _ _ _
  refine wpAny_bind (wpAny_field ho hd (x := .ref it) h2 ?_)
  refine wpAny_bind (D.done _ _ _ hst fun h' x he' hx' => ?_)
  obtain ⟨o, ho, hc⟩ := hx'
  refine wpAny_bind (wpAny_isInstance (T := "StopIteration") (b := true) ⟨o, ho, hc⟩ isSubtype_stop ?_)
  exact wpAny_pure (hQ _ he')
end
/-- the tuples that came out -/
structure EnG (P : Nat → Value → Prop) (lo : Addr) (h : Heap) (as : List Addr) : Prop where
  rise : as.Pairwise (· < ·)
  above : ∀ a ∈ as, lo < a
  pairs : ∀ (j : Nat) (a : Addr), as[j]? = some a → ∃ tk x, P j x ∧ h.get? a = some { cls := .type "tuple", data := .seq #[.int (j : Int) tk, x] }
theorem EnG.there {P : Nat → Value → Prop} {lo : Addr} {h : Heap} {as : List Addr} (g : EnG P lo h as) {a : Addr} (ha : a ∈ as) : a < h.objs.size := by
  obtain ⟨j, hj⟩ := List.mem_iff_getElem?.mp ha
  obtain ⟨_, _, _, e⟩ := g.pairs j a hj
  exact Heap.lt_size e
section
variable {prog : Program} {w : World} {A : Around} {s : Shared} {R : Result → Shared → Prop}
theorem enum_loop {S e it : Addr} {fp : List Addr} {n : Nat} {P : Nat → Value → Prop} {St : Nat → Heap → Prop} (D : Draws prog w A.in1.in1 it fp n P St) (heS : e < S) (hiS : it < S) (hSf : S ∉ fp) (hne : e ≠ it) (hef : e ∉ fp) (hn : n ≤ sizeLine) (res : Value) {h₁ : Heap}
    (hR : ∀ h' tk acc c as, (∀ b o, b ≠ S → b ≠ e → b ≠ it → h₁.get? b = some o → h'.get? b = some o) → h'.get? S = some { cls := .type "list", dict := none, data := .seq acc c, slots := #[] } → as.length = n → EnG P S h' as →
      acc.toList = as.map Value.ref → R (.ok (.ret res)) { s with heap := h', toks := tk }) :
    ∀ (k i : Nat) (h : Heap) (tk c : Nat) (acc : Array Value) (as : List Addr), n - i = k → i ≤ n → EnIs h e it S (i : Int) → St i h → (∀ b o, b ≠ S → b ≠ e → b ≠ it → h₁.get? b = some o → h.get? b = some o) →
      h.get? S = some { cls := .type "list", dict := none, data := .seq acc c, slots := #[] } → acc.toList = as.map Value.ref → as.length = i → EnG P S h as → S < h.objs.size →
      codeAny (model prog w) A (.builtin "list.extend.loop" ⟨[.ref S, .ref e, res], []⟩) R { s with heap := h, toks := tk } := by
  have hSe : S ≠ e := Nat.ne_of_gt heS
  have hSi : S ≠ it := Nat.ne_of_gt hiS
  intro k
  induction k with
  | zero =>
    intro i h tk c acc as hk hi he hst hkeep hS hacc hal hG hIs
    have hin : i = n := by omega
    subst hin
    refine codeAny_builtin PySem.F.entry_extend_loop ?_
    rw [Around.under_plainId PySem.F.plain_extend_loop _]
    show wpAny _ A.in1 (pyNext (.ref e) >>= _) _ _ _
    refine wpAny_bind (enum_end (s := { s with heap := h, toks := tk }) (A := A.in1) D he hst fun h' hx => ?_)
    have ne : ∀ a ∈ as, a ≠ it := fun a ha => Nat.ne_of_gt (Nat.lt_trans hiS (hG.above a ha))
    refine wpAny_pure (hR h' tk acc c as (fun b o h1 h2 h3 q => hx b o h3 (hkeep b o h1 h2 h3 q)) (hx S _ hSi hS) hal ⟨hG.rise, hG.above, fun j a hj => ?_⟩ hacc)
    obtain ⟨t, x, hp, e3⟩ := hG.pairs j a hj
    exact ⟨t, x, hp, hx a _ (ne a (List.mem_of_getElem? hj)) e3⟩
  | succ k ih =>
    intro i h tk c acc as hk hi he hst hkeep hS hacc hal hG hIs
    have hlt : i < n := by omega
    have hsz : acc.size = i := by rw [← Array.length_toList, hacc, List.length_map, hal]
    refine codeAny_builtin PySem.F.entry_extend_loop ?_
    rw [Around.under_plainId PySem.F.plain_extend_loop _]
    show wpAny _ A.in1 (pyNext (.ref e) >>= _) _ _ _
    refine wpAny_bind (enum_next (s := { s with heap := h, toks := tk }) (S := S) D he (Heap.lt_size hS) hst hlt hne hef fun x h' tk' hp he' hst' ht hz hkp => ?_)
    dsimp only at ht hz hkp ⊢
    have hS' := hkp S _ hSe hSi hS
    have up : ∀ b o, b ≠ S → h'.get? b = some o → (h'.update S (Obj.mapSeq (·.push (Value.ref h.objs.size)))).get? b = some o := fun b o hb q => (Heap.get?_update_other _ _ (Ne.symm hb)).trans q
    have hSl : S < h.objs.size := Heap.lt_size hS
    show wpAny _ A.in1 (updateSeq S (·.push (Value.ref h.objs.size)) >>= _) _ _ _
    refine wpAny_bind ?_
    have above : ∀ a, S < a → a ≠ S ∧ a ≠ e ∧ a ≠ it := fun a ha => ⟨Nat.ne_of_gt ha, Nat.ne_of_gt (Nat.lt_trans heS ha), Nat.ne_of_gt (Nat.lt_trans hiS ha)⟩
    have ei : ((i : Int) + 1) = ((i + 1 : Nat) : Int) := by omega
    rw [ei] at he'
    refine wpAny_updateSeq hS' rfl (wpAny_pure ⟨plainId_quiet PySem.F.plain_extend_loop _, ih (i + 1) _ (tk' + 1) _ (acc.push (Value.ref h.objs.size)) (as ++ [h.objs.size]) (by omega) hlt (he'.keep up (Ne.symm hSe)) (D.frame _ _ _ hst' fun b hb o q => up b o (fun z => hSf (z ▸ hb)) q)
      (fun b o h1 h2 h3 q => up b o h1 (hkp b o h2 h3 (hkeep b o h1 h2 h3 q))) (Heap.get?_update_self _ hS' rfl) (by rw [Array.toList_push, hacc, List.map_append]; rfl) (by rw [List.length_append, hal]; rfl) ⟨?_, ?_, ?_⟩ ?_⟩) (by rw [hsz]; omega) (by show (acc.push (Value.ref h.objs.size)).size ≤ sizeLine + 1; rw [Array.size_push, hsz]; omega)
    · refine List.pairwise_append.mpr ⟨hG.rise, List.pairwise_singleton _ _, fun a ha b hb => ?_⟩
      rw [List.mem_singleton.mp hb]
      exact hG.there ha
    · intro a ha
      rcases List.mem_append.mp ha with ha | ha
      · exact hG.above a ha
      · rw [List.mem_singleton.mp ha]; exact hIs
    · intro j b hj
      rcases Nat.lt_trichotomy j as.length with h1 | h1 | h1
      · rw [List.getElem?_append_left h1] at hj
        obtain ⟨t, y, hy, e3⟩ := hG.pairs j b hj
        obtain ⟨n1, n2, n3⟩ := above b (hG.above b (List.mem_of_getElem? hj))
        exact ⟨t, y, hy, up b _ n1 (hkp b _ n2 n3 e3)⟩
      · subst h1
        have hb : h.objs.size = b := by simpa using hj
        subst hb
        subst hal
        exact ⟨tk', x, hp, up _ _ (Nat.ne_of_gt hSl) ht⟩
      · have hnone : (as ++ [h.objs.size])[j]? = none := List.getElem?_eq_none (by rw [List.length_append, List.length_singleton]; omega)
        rw [hnone] at hj; cases hj
    · have q : (h'.update S (Obj.mapSeq (·.push (Value.ref h.objs.size)))).get? h.objs.size = _ := up _ _ (Nat.ne_of_gt hSl) ht
      exact Nat.lt_trans hIs (Heap.lt_size q)
end
end Mw

end

section
set_option Elab.async false
set_option linter.all false
set_option maxRecDepth 100000
set_option maxHeartbeats 2000000
/-! list(enumerate(v)): the rule. -/
namespace Mw
open PySem PySem.Spec PyProof.Rows PySem.W

theorem lk_en_len : typeLookup (.type "enumerate") "__len__" = pure none := by rw [typeLookup_type, builtinLookup_eq_fast]; kernel_rfl
theorem lk_en_hint : typeLookup (.type "enumerate") "__length_hint__" = pure none := by rw [typeLookup_type, builtinLookup_eq_fast]; kernel_rfl
theorem EnIs.iter {prog : Program} {w : World} {A : Around} {E : Value → Shared → Prop} {s : Shared} {e it S : Addr} {c : Int} {Q : Value → Shared → Prop} (x : EnIs s.heap e it S c) (h : Q (.ref e) s) : wpAny (model prog w) A (pyIter (.ref e)) Q E s := by
  have hT := x.typeIs
  refine wpAny_pyIter_slot hT F.slot_enumerate_iter (wpAny_call_entry F.slot_enumerate_iter hT F.entry_enumerate_iter ?_ (F.args_enumerate_iter_1 _))
  show wpAny _ _ (ret (.ref e)) _ _ s
  exact wpAny_pure ⟨_, rfl, "enumerate", _, hT, F.slot_enumerate_next.lookup, h⟩

set_option maxHeartbeats 1000000 in
theorem meets_enum1 {v : Value} {o : Obj} {H : Heap → Prop} (B : Begins v o H) :
    Meets (Builtin.«enumerate.__new__» ⟨[.type "enumerate", v], []⟩) (fun _ R s => H s.heap ∧
      R (.ok (.ret (.ref (s.heap.push o).objs.size))) { s with heap := (s.heap.push o).push { cls := .type "enumerate", data := .fields #[.none, .bool false, .ref s.heap.objs.size, rawInt 0, .none, .none] } }) :=
  .of_wp fun prog w A R s h => by
    obtain ⟨hp, g, d, tk, os⟩ := s; obtain ⟨h1, h⟩ := h
    have hsub := sub_enumerate
    have q1 : ∀ {A' : Around} {E : Value → Shared → Prop} {Q : Value → Shared → Prop}, Q (.ref hp.objs.size) ⟨hp.push o, g, d, tk, os⟩ → wpAny (model prog w) A' (pyIter v) Q E ⟨hp, g, d, tk, os⟩ :=
      fun q => B.iter prog w _ _ ⟨hp, g, d, tk, os⟩ _ h1 q
    wp_walk using q1
    refine wpAny_stack_any fun st => wpAny_pure ?_
    split
    · rename_i c _ _ _ _ _
      cases (c == Value.type "enumerate")
      · wp_walk using q1
        exact ⟨_, rfl, h⟩
      · wp_walk using q1
        exact ⟨_, rfl, h⟩
    · wp_walk using q1
      exact ⟨_, rfl, h⟩
section
variable {prog : Program} {w : World} {A : Around} {E : Value → Shared → Prop} {s : Shared}
theorem enum_begins1 {v : Value} {o : Obj} {H : Heap → Prop} {Q : Value → Shared → Prop} (B : Begins v o H) (h1 : H s.heap)
    (h : ∀ h', IsEnum h' (s.heap.objs.size + 1) s.heap.objs.size 0 .none → h'.get? s.heap.objs.size = some o → h'.objs.size = s.heap.objs.size + 2 →
      (∀ b o, s.heap.get? b = some o → h'.get? b = some o) → Q (.ref (s.heap.objs.size + 1)) { s with heap := h' }) :
    wpAny (model prog w) A (call (.type "enumerate") [v]) Q E s := by
  refine callType_new F.called_enumerate (by decide) (F.typeCall_enumerate_1 _) (F.newCall_enumerate_1 _) (fun obj => F.args_object_init_2 obj _) F.entry_enumerate_new
    (meets_enum1 B) ⟨h1, ?_⟩
  have hz : (s.heap.push o).objs.size = s.heap.objs.size + 1 := Heap.size_push ..
  show _ ∧ _
  rw [hz]
  have he : IsEnum ((s.heap.push o).push { cls := .type "enumerate", data := .fields #[.none, .bool false, .ref s.heap.objs.size, rawInt 0, .none, .none] }) (s.heap.objs.size + 1) s.heap.objs.size 0 .none := by
    have := Heap.get?_push_size (s.heap.push o) (o := { cls := .type "enumerate", data := .fields #[.none, .bool false, .ref s.heap.objs.size, rawInt 0, .none, .none] }) rfl
    rw [hz] at this; exact this
  refine ⟨⟨_, he, rfl⟩, h _ he (Heap.get?_push_of_some _ (Heap.get?_push_size _ B.free)) (by rw [Heap.size_push, hz]) fun b o x => Heap.get?_push_of_some _ (Heap.get?_push_of_some _ x)⟩

/-- list(e), e an enumerate object that has not begun -/
theorem list_enum {e it : Addr} {fp : List Addr} {n : Nat} {P : Nat → Value → Prop} {St : Nat → Heap → Prop} {Q : Value → Shared → Prop} (D : Draws prog w A.in1.in1.in1 it fp n P St) (he : IsEnum s.heap e it 0 .none) (hst : St 0 s.heap) (hne : e ≠ it) (hef : e ∉ fp)
    (hlt : it < s.heap.objs.size) (hfp : ∀ b ∈ fp, b < s.heap.objs.size) (hn : n ≤ sizeLine)
    (hQ : ∀ h' tk acc c as, (∀ b o, b ≠ e → b ≠ it → s.heap.get? b = some o → h'.get? b = some o) → h'.get? s.heap.objs.size = some { cls := .type "list", dict := none, data := .seq acc c, slots := #[] } → as.length = n → EnG P (s.heap.objs.size) h' as →
      acc.toList = as.map Value.ref → Q (.ref s.heap.objs.size) { s with heap := h', toks := tk }) :
    wpAny (model prog w) A (call (.type "list") [.ref e]) Q E s := by
  have hSe : s.heap.objs.size ≠ e := Nat.ne_of_gt (Heap.lt_size he)
  refine callType_codes (Q₁ := fun obj s₁ => obj = .ref s.heap.objs.size ∧ s₁ = { s with heap := s.heap.push { cls := .type "list", data := .seq #[] } }) F.called_list (F.typeCall_list_1 _) F.entry_list_init
    (code_list_new _ ⟨rfl, rfl⟩) fun obj s₁ h₁ => ?_
  obtain ⟨rfl, rfl⟩ := h₁
  have hS : (s.heap.push { cls := .type "list", data := .seq #[] }).get? s.heap.objs.size = some { cls := .type "list", data := .seq #[] } := Heap.get?_push_size _ rfl
  refine ⟨⟨_, hS, rfl⟩, F.args_list_init_2 _ _, ?_⟩
  show wpAny _ A.in1.in1 (do let old ← Builtin.List.listItems (.ref s.heap.objs.size); Builtin.List.listUpdate (.ref s.heap.objs.size) (fun _ => #[]); letGo old.toList.reverse; Builtin.List.listExtendWith (.ref s.heap.objs.size) (.ref e) .none) _ _ _
  refine wpAny_bind ?_
  unfold Builtin.List.listItems
  refine wpAny_bind (wpAny_seqItems hS rfl (wpAny_pure ?_))
  show wpAny _ A.in1.in1 (updateSeq s.heap.objs.size (fun _ => #[]) >>= fun _ => letGo (#[] : Array Value).toList.reverse >>= fun _ => Builtin.List.listExtendWith (.ref s.heap.objs.size) (.ref e) .none) _ _ _
  refine wpAny_bind (wpAny_updateSeq hS rfl ?_)
  have hS2 := Heap.get?_update_self (Obj.mapSeq (fun _ => (#[] : Array Value))) hS rfl
  refine wpAny_bind (wpAny_letGo ?_)
  unfold Builtin.List.listExtendWith
  have up : ∀ (h : Heap) (f : Obj → Obj), (∀ b o, s.heap.get? b = some o → h.get? b = some o) → ∀ b o, s.heap.get? b = some o → (h.update s.heap.objs.size f).get? b = some o := fun h f q b o e =>
    (Heap.get?_update_other _ _ (Ne.symm (Nat.ne_of_lt (Heap.lt_size e)))).trans (q b o e)
  have k1 : ∀ b o, s.heap.get? b = some o → (s.heap.push { cls := .type "list", data := .seq #[] }).get? b = some o := fun b o e => Heap.get?_push_of_some _ e
  have k2 := up _ (Obj.mapSeq (fun _ => (#[] : Array Value))) k1
  have en : ∀ {h : Heap}, (∀ b o, s.heap.get? b = some o → h.get? b = some o) → EnIs h e it s.heap.objs.size 0 := fun {h} q => .inl ⟨.none, q e _ he⟩
  refine wpAny_bind (wpAny_typeOf (EnIs.typeIs (s := { s with heap := _ }) (en k2)) ?_)
  have h1 : Builtin.List.listSameRef (.ref s.heap.objs.size) (.ref e) = false := by simp [Builtin.List.listSameRef, hSe]
  have h2 : (Value.type "enumerate" == Value.type "list") = false := by decide
  have h3 : (Value.type "enumerate" == Value.type "tuple") = false := by decide
  simp only [h1, h2, h3, Bool.or_false, Bool.false_eq_true, if_false]
  refine wpAny_bind (EnIs.iter (s := { s with heap := _ }) (en k2) ?_)
  refine wpAny_bind (wpAny_holding ?_)
  unfold Builtin.List.listLengthHint
  refine wpAny_bind (wpAny_specialOf (EnIs.typeIs (s := { s with heap := _ }) (en k2)) lk_en_len ?_)
  show wpAny _ A.in1.in1 (specialOf (Value.ref e) (Str.ofString "__length_hint__") >>= _) _ _ _
  refine wpAny_bind (wpAny_specialOf (EnIs.typeIs (s := { s with heap := _ }) (en k2)) lk_en_hint ?_)
  refine wpAny_pure ?_
  show wpAny _ A.in1.in1 (rule "list.extend.makes-room" >>= fun _ => Builtin.List.listTouch (.ref s.heap.objs.size) >>= fun _ =>
    again (.builtin "list.extend.loop" ⟨[.ref s.heap.objs.size, .ref e, .none], []⟩)) _ _ _
  refine wpAny_bind (wpAny_rule ?_)
  refine wpAny_bind ?_
  show wpAny _ A.in1.in1 (updateSeq s.heap.objs.size (·.push .none) >>= fun _ => updateSeq s.heap.objs.size (·.pop)) _ _ _
  refine wpAny_bind (wpAny_updateSeq hS2 rfl ?_)
  have hS3 := Heap.get?_update_self (Obj.mapSeq (·.push Value.none)) hS2 rfl
  refine wpAny_updateSeq (hz := by seq_fits) hS3 rfl ?_
  have hS4 := Heap.get?_update_self (Obj.mapSeq (·.pop)) hS3 rfl
  have k4 := up _ (Obj.mapSeq (·.pop)) (up _ (Obj.mapSeq (·.push Value.none)) k2)
  refine wpAny_pure ⟨plainId_quiet F.plain_extend_loop _, ?_⟩
  refine enum_loop (A := A.in1) (s := s) (S := s.heap.objs.size) D (Heap.lt_size he) hlt (fun z => Nat.lt_irrefl _ (hfp _ z)) hne hef hn .none (h₁ := s.heap) (fun h' tk acc c as hk hS' hl hG hacc => ⟨rfl, ?_⟩)
    n 0 _ _ _ #[] [] (Nat.sub_zero _) (Nat.zero_le _) (en k4) (D.frame _ _ _ hst fun b hb o q => k4 b o q) (fun b o _ _ _ q => k4 b o q) hS4 rfl rfl ⟨List.Pairwise.nil, (fun _ ha => nomatch ha), (fun j a hj => by simp at hj)⟩ (Heap.lt_size hS4)
  exact hQ h' tk acc c as (fun b o h1 h2 q => hk b o (Nat.ne_of_lt (Heap.lt_size q)) h1 h2 q) hS' hl hG hacc
end
end Mw

end

section
set_option Elab.async false
set_option linter.all false
set_option maxRecDepth 100000
set_option maxHeartbeats 2000000
/-! list(enumerate(v)) as an expression. -/
namespace Mw
open PySem PySem.Spec PyProof.Rows L2
/-- the items with their places -/
def idx (xs : List V) : List (Key × V) := xs.zipIdx.map fun p => ((.inl (p.2 : Int) : Key), p.1)
theorem idx_len (xs : List V) : (idx xs).length = xs.length := by simp [idx]
theorem idx_get {xs : List V} {j : Nat} {x : V} (h : xs[j]? = some x) : (idx xs)[j]? = some (.inl (j : Int), x) := by
  unfold idx
  rw [List.getElem?_map, List.getElem?_zipIdx, h]
  simp
def tListEnum (K : PySem.W.Frag) (te : TE) : TE := fun σ H Q => te σ H fun x H1 => ∃ a xs, x = .ref a ∧ (SqL K H1 a xs ∨ SqT K H1 a xs) ∧
  ∀ H' p ts, Same H1 H' → H' p = some (.lst (ts.map V.ref)) → Paired (fun (t : Addr) (q : Key × V) => H' t = some (.tup [kV q.1, q.2])) ts (idx xs) → Q (.ref p) H'
section
variable {X : Cx} {e : Expr} {te : TE} {p p2 pos pos2 : Pos}
theorem enum_laid {pins : List (Addr × Obj)} {σ : L2.St} {H : Hp} {s : Shared} {h' : Heap} {tk : Nat} {xs : List V} {its : List Value} {acc : Array Value} {c : Nat} {as : List Addr} {S : Addr} (I : Inv X pins σ H s) (hz : xs.length ≤ sizeLine) (rv : Vals xs its) (hsz : s.heap.objs.size ≤ S)
    (hk : ∀ b o, s.heap.get? b = some o → h'.get? b = some o) (hS : h'.get? S = some { cls := .type "list", dict := none, data := .seq acc c, slots := #[] }) (hl : as.length = its.length) (hG : EnG (fun i v => its.toArray[i]? = some v) S h' as) (hacc : acc.toList = as.map Value.ref) :
    ∃ H' : Hp, Same H H' ∧ H' S = some (.lst (as.map V.ref)) ∧ Paired (fun (t : Addr) (q : Key × V) => H' t = some (.tup [kV q.1, q.2])) as (idx xs) ∧ Inv X pins σ H' { s with heap := h', toks := tk } := by
  have lk : xs.length = its.length := rv.length
  have hSn : S ∉ as := fun z => Nat.lt_irrefl _ (hG.above _ z)
  have nd : as.Nodup := List.Pairwise.imp (fun {a b} (h : a < b) => Nat.ne_of_lt h) hG.rise
  have big : ∀ t ∈ as, s.heap.objs.size ≤ t := fun t ht => Nat.le_trans hsz (Nat.le_of_lt (hG.above t ht))
  have new : ∀ t ∈ as, H t = none := fun t ht => I.hok.fresh (big t ht)
  have newS : H S = none := I.hok.fresh hsz
  have atP := LiI.putT_at as (idx xs) (upd H S (.lst (as.map V.ref))) (by rw [idx_len]; omega) nd
  have off : ∀ b, b ∉ as → b ≠ S → LiI.putT (upd H S (.lst (as.map V.ref))) as (idx xs) b = H b := fun b h1 h2 => by rw [LiI.putT_off as (idx xs) _ h1, upd_ne h2]
  have low : ∀ b o, s.heap.get? b = some o → b ∉ as ∧ b ≠ S := fun b o e => ⟨fun z => absurd (Heap.lt_size e) (Nat.not_lt.mpr (big b z)), Nat.ne_of_lt (Nat.lt_of_lt_of_le (Heap.lt_size e) hsz)⟩
  have kp : ∀ b u, H b = some u → (LiI.putT (upd H S (.lst (as.map V.ref))) as (idx xs)) b = some u := fun b u e => by
    rw [off b (fun z => by rw [new b z] at e; cases e) (fun z => by rw [z, newS] at e; cases e)]
    exact e
  have eS : LiI.putT (upd H S (.lst (as.map V.ref))) as (idx xs) S = some (.lst (as.map V.ref)) := by rw [LiI.putT_off as (idx xs) _ hSn, upd_same]
  refine ⟨LiI.putT (upd H S (.lst (as.map V.ref))) as (idx xs), kp, eS, atP, ?_⟩
  refine I.call' (ch := []) rfl ⟨fun b o q _ _ _ => hk b o q, fun b o q _ _ _ => ⟨o.slots, hk b o q⟩, fun b o q n _ => ?_, fun b o q _ => ⟨o, hk b o q⟩, fun b xs q => kp b _ q, fun b o u q => kp b _ q, fun b ps q => ⟨#[], by rw [kp b _ q]; simp⟩⟩ (fun b u q => ?_) I.bare fun b z => by simp at z
  · obtain ⟨z1, z2⟩ := low b o q
    rw [off b z1 z2]
    exact n
  · by_cases hb : b ∈ as
    · obtain ⟨j, pk, e1, e2, e3⟩ := LiI.paired_ix atP hb
      rw [e3] at q
      cases q
      obtain ⟨t, y, hy, f3⟩ := hG.pairs j b e1
      have hj : j < xs.length := by
        have := (List.getElem?_eq_some_iff.mp e2).1
        rw [idx_len] at this
        exact this
      obtain ⟨x, hx⟩ : ∃ x, xs[j]? = some x := ⟨xs[j], List.getElem?_eq_getElem hj⟩
      have ep := idx_get hx
      rw [e2] at ep
      have ep' : pk = (.inl (j : Int), x) := Option.some.inj ep
      subst ep'
      obtain ⟨u, hu, ru⟩ := rv.get hx
      have hy' : its.toArray[j]? = some y := hy
      have hu' : its.toArray[j]? = some u := by simpa using hu
      have eu : u = y := Option.some.inj (hu'.symm.trans hy')
      subst eu
      exact ⟨by show 2 ≤ sizeLine; decide, [.int (j : Int) t, u], .cons ⟨t, rfl⟩ (.cons ru .nil), ⟨_, f3, rfl, _, rfl⟩⟩
    · by_cases hb2 : b = S
      · rw [hb2] at q ⊢
        rw [eS] at q
        cases q
        refine ⟨by rw [List.length_map]; omega, acc.toList, c, by rw [hacc]; exact LiI.vals_refs as, ?_⟩
        rw [Array.toArray_toList]
        exact hS
      · rw [off b hb hb2] at q
        exact (I.hok b u q).stay (fun d v _ y => hk d v y) (fun d y => kp d _ y) fun d xs y => kp d _ y
/-- list(enumerate(e)) -/
theorem pe_listEnum (hc : X.calm = true) (he : PE X e te) (hg : Gl X "list") (hm : X.mg "list" = none) (hg2 : Gl X "enumerate") (hm2 : X.mg "enumerate" = none)
    (hs : starEach [.Call (.Name "enumerate" p2) [e] [] pos2] X.env = (false, eval (.Call (.Name "enumerate" p2) [e] [] pos2) X.env) :: starEach [] X.env := by rfl)
    (hs2 : starEach [e] X.env = (false, eval e X.env) :: starEach [] X.env := by rfl) :
    PE X (.Call (.Name "list" p) [.Call (.Name "enumerate" p2) [e] [] pos2] [] pos) (tListEnum X.K te) := by
  refine ⟨fun pins s σ H Q I hq => ?_⟩
  refine wpAny_Call_Name_kw (ld_blt I hg hm boot_list ?_)
  refine PyProof.Rows.callWith_type1 ?_ hs rfl
  rw [hs]
  show wpAny _ _ (spliced ((false, eval (.Call (.Name "enumerate" p2) [e] [] pos2) X.env) :: backTo pos (starEach [] X.env))) _ _ s
  refine Calls.spliced_cons ?_
  refine wpAny_Call_Name_kw (ld_blt I hg2 hm2 boot_enumerate ?_)
  refine PyProof.Rows.callWith_type1 ?_ hs2 rfl
  rw [hs2]
  show wpAny _ _ (spliced ((false, eval e X.env) :: backTo pos2 (starEach [] X.env))) _ _ s
  refine Calls.spliced_cons (thn (he.run pins s σ H _ I hq) fun u s1 ⟨x, H1, I1, rx, a, xs, ex, hd, q⟩ => ?_)
  subst ex
  obtain rfl : u = Value.ref a := rx
  refine Calls.spliced_nil ?_
  have hh : X.A.in1.in1.in1.handled = none := I1.ok.hd hc
  rcases hd with hd | hd
  · obtain ⟨its, rv, pl, hz⟩ := I1.list hd
    have hlen := rv.length
    have ha : a < s1.heap.objs.size := let ⟨_, ho, _⟩ := pl.isList; Heap.lt_size ho
    refine enum_begins1 (begins_list a its.toArray) pl.isList fun h' he' hit hsz hk => ?_
    refine Calls.spliced_nil ?_
    refine list_enum (s := { s1 with heap := h' }) (Draws.list hh s1.heap.objs.size a (Nat.ne_of_lt ha) its.toArray) he' ⟨⟨_, hit, rfl, rfl⟩, pl.isList.at fun o q => hk a o q⟩ (Nat.succ_ne_self _) (fun z => ?_) ?_ (fun b hb => ?_) (by simp only [List.size_toArray]; omega)
      (fun h'' tk acc c as hk' hS hl hG hacc => ?_)
    · rcases List.mem_cons.mp z with z | z
      · exact Nat.succ_ne_self _ z
      · rw [List.mem_singleton] at z
        exact absurd ha (by rw [← z]; exact Nat.not_lt.mpr (Nat.le_succ _))
    · show s1.heap.objs.size < h'.objs.size
      omega
    · show b < h'.objs.size
      rcases List.mem_cons.mp hb with z | z
      · rw [z, hsz]; exact Nat.lt_succ_of_lt (Nat.lt_succ_self _)
      · rw [List.mem_singleton.mp z, hsz]; exact Nat.lt_succ_of_lt (Nat.lt_succ_of_lt ha)
    · have low : ∀ b o, s1.heap.get? b = some o → h''.get? b = some o := fun b o e => hk' b o (Nat.ne_of_lt (Nat.lt_succ_of_lt (Heap.lt_size e))) (Nat.ne_of_lt (Heap.lt_size e)) (hk b o e)
      obtain ⟨H', e1, e2, e3, J⟩ := enum_laid (tk := tk) (S := h'.objs.size) I1 hz rv (by omega) low hS (by simpa using hl) hG hacc
      exact ⟨.ref _, H', J, rfl, q H' _ as e1 e2 e3⟩
  · obtain ⟨its, rv, pl, hz⟩ := I1.tuple hd
    have hlen := rv.length
    have pl' : s1.heap.IsTuple a its.toArray := pl
    have ha : a < s1.heap.objs.size := let ⟨_, ho, _⟩ := pl'; Heap.lt_size ho
    refine enum_begins1 (begins_tuple a its.toArray) pl' fun h' he' hit hsz hk => ?_
    refine Calls.spliced_nil ?_
    refine list_enum (s := { s1 with heap := h' }) (Draws.tuple hh s1.heap.objs.size a (Nat.ne_of_lt ha) its.toArray) he' ⟨⟨_, hit, rfl, rfl⟩, pl'.at fun o q => hk a o q⟩ (Nat.succ_ne_self _) (fun z => ?_) ?_ (fun b hb => ?_) (by simp only [List.size_toArray]; omega)
      (fun h'' tk acc c as hk' hS hl hG hacc => ?_)
    · rcases List.mem_cons.mp z with z | z
      · exact Nat.succ_ne_self _ z
      · rw [List.mem_singleton] at z
        exact absurd ha (by rw [← z]; exact Nat.not_lt.mpr (Nat.le_succ _))
    · show s1.heap.objs.size < h'.objs.size
      omega
    · show b < h'.objs.size
      rcases List.mem_cons.mp hb with z | z
      · rw [z, hsz]; exact Nat.lt_succ_of_lt (Nat.lt_succ_self _)
      · rw [List.mem_singleton.mp z, hsz]; exact Nat.lt_succ_of_lt (Nat.lt_succ_of_lt ha)
    · have low : ∀ b o, s1.heap.get? b = some o → h''.get? b = some o := fun b o e => hk' b o (Nat.ne_of_lt (Nat.lt_succ_of_lt (Heap.lt_size e))) (Nat.ne_of_lt (Heap.lt_size e)) (hk b o e)
      obtain ⟨H', e1, e2, e3, J⟩ := enum_laid (tk := tk) (S := h'.objs.size) I1 hz rv (by omega) low hS (by simpa using hl) hG hacc
      exact ⟨.ref _, H', J, rfl, q H' _ as e1 e2 e3⟩
end
end Mw

end

section
set_option Elab.async false
set_option linter.all false
set_option maxRecDepth 100000
set_option maxHeartbeats 4000000
/-! Comprehensions by what each turn adds. -/
namespace Mw
open PySem PySem.Spec PyProof.Rows L2
/-- the heap without D -/
def hid (D : Addr) (H : Hp) : Hp := fun b => if b = D then none else H b
theorem hid_ne {D b : Addr} {H : Hp} (h : b ≠ D) : hid D H b = H b := if_neg h
theorem hid_same {D : Addr} {H : Hp} : hid D H D = none := if_pos rfl
/-- what is in G stands in H as it is -/
theorem rdS_sub {G H : Hp} (h : ∀ b o, G b = some o → H b = some o) : RdS G H := rdS_of h
theorem hid_sub {D : Addr} {H : Hp} : Same (hid D H) H := fun b o e => by
  by_cases hb : b = D
  · rw [hb, hid_same] at e; cases e
  · rw [hid_ne hb] at e; exact e
theorem hid_mono {D : Addr} {H H' : Hp} (h : ∀ b o, b ≠ D → H b = some o → H' b = some o) : Same (hid D H) (hid D H') := fun b o e => by
  by_cases hb : b = D
  · rw [hb, hid_same] at e; cases e
  · rw [hid_ne hb] at e ⊢; exact h b o hb e
theorem hid_of {D : Addr} {G H : Hp} (h : Same G H) (hD : G D = none) : Same G (hid D H) := fun b o e => by
  rw [hid_ne (ne_of_none e hD)]
  exact h b o e
/-- what is new in H' -/
def fr (H H' : Hp) : Hp := fun b => if H b = none then H' b else none
theorem fr_sub {H H' : Hp} : Same (fr H H') H' := fun b o e => by
  unfold fr at e
  split at e
  · exact e
  · cases e
theorem fr_old {H H' : Hp} {b : Addr} {o : HO} (h : H b = some o) : fr H H' b = none := by
  unfold fr
  rw [if_neg (by rw [h]; exact fun z => nomatch z)]
theorem fr_new {H H' : Hp} {b : Addr} (h : H b = none) : fr H H' b = H' b := if_pos h
/-- new in H' over H is new over what H grew from -/
theorem fr_back {H0 H H' : Hp} (s : Same H0 H) : Same (fr H H') (fr H0 H') := fun b o e => by
  unfold fr at e
  split at e
  · rename_i hb
    rw [fr_new (s.free hb)]
    exact e
  · cases e
theorem fr_up {H H1 H' : Hp} (s : Same H1 H') : Same (fr H H1) (fr H H') := fun b o e => by
  unfold fr at e ⊢
  split at e
  · rw [if_pos ‹_›]; exact s b o e
  · cases e
theorem fr_hid {H H' : Hp} {D : Addr} {o : HO} (h : H D = some o) : Same (fr H H') (hid D H') := hid_of fr_sub (fr_old h)
theorem upd_hid {D : Addr} {H : Hp} {o : HO} : hid D (upd H D o) = hid D H := by
  funext b
  by_cases hb : b = D
  · rw [hb, hid_same, hid_same]
  · rw [hid_ne hb, hid_ne hb, upd_ne hb]

/-- an iterator of n turns, x at turn i by src, while ok holds -/
structure Gen (J : It) (n : Nat) (src : Nat → V → Prop) (ok : Hp → Prop) : Prop where
  go : ∀ i H, ok H → i < n → J.go i H
  yld : ∀ i H x H', ok H → i < n → J.yld i H x H' → H' = H ∧ src i x
  stop : ∀ H, ok H → J.stop n H
theorem gen_keys {d : Addr} {od : Obj} {kvs : List (Key × V)} : Gen (Itk d od kvs) kvs.length (fun i x => ∃ k v, kvs[i]? = some (k, v) ∧ x = kV k) (fun H => H d = some (.frz od (.dK kvs))) where
  go := fun i H h hi => ⟨h, hi⟩
  yld := fun i H x H' h hi y => y
  stop := fun H h => ⟨h, Nat.le_refl _⟩
theorem gen_list {K : PySem.W.Frag} {a : Addr} {xs : List V} : Gen (Itl K a) xs.length (fun i x => xs[i]? = some x) (fun H => SqL K H a xs) where
  go := fun i H h hi => ⟨xs, xs[i], h, by simp [hi]⟩
  yld := fun i H x H' h hi y => ⟨y.1, y.2 xs h⟩
  stop := fun H h => ⟨xs, h, Nat.le_refl _⟩
theorem gen_str {x : Str} : Gen (Its x) x.cps.size (fun i v => ∃ c, x.cps[i]? = some c ∧ v = .str ⟨#[c]⟩) (fun _ => True) where
  go := fun i H h hi => hi
  yld := fun i H x H' h hi y => y
  stop := fun H h => Nat.le_refl _
theorem gen_range {lo : Int} {n : Nat} : Gen (Itr lo n) n (fun i v => v = .int (lo + i)) (fun _ => True) where
  go := fun i H h hi => hi
  yld := fun i H x H' h hi y => y
  stop := fun H h => Nat.le_refl _
/-- the turns that are kept -/
def kp (keep : Nat → Bool) (n : Nat) : List Nat := (List.range n).filter keep
theorem kp_succ (keep : Nat → Bool) (n : Nat) : kp keep (n + 1) = if keep n = true then kp keep n ++ [n] else kp keep n := by
  unfold kp
  rw [List.range_succ, List.filter_append]
  cases h : keep n
  · rw [List.filter_cons_of_neg (by rw [h]; exact Bool.false_ne_true), List.filter_nil, List.append_nil, if_neg Bool.false_ne_true]
  · rw [List.filter_cons_of_pos h, List.filter_nil, if_pos rfl]
theorem kp_all (n : Nat) : kp (fun _ => true) n = List.range n := by
  unfold kp
  exact List.filter_eq_self.mpr fun _ _ => rfl
theorem kp_len (keep : Nat → Bool) (n : Nat) : (kp keep n).length ≤ n := by
  unfold kp
  have h := List.length_filter_le keep (List.range n)
  rw [List.length_range] at h
  exact h
/-- the turns' results -/
abbrev Out (R : Nat → Hp → V → Prop) (keep : Nat → Bool) (n : Nat) (G : Hp) (acc : List V) : Prop := Paired (fun i y => R i G y) (kp keep n) acc
theorem lc_gen {J : It} {n : Nat} {src : Nat → V → Prop} {ok : Hp → Prop} {g : TG} {tt : TT} {te : TE} {vs : List Nat} {σ : L2.St} {H1 : Hp} {D : Addr} {Qd : Hp → Prop} (G : Gen J n src ok) (hD : H1 D = none) (okS : ∀ H, Same H1 H → ok H)
    (R : Nat → Hp → V → Prop) (keep : Nat → Bool) (mono : ∀ i H H' y, RdS H H' → R i H y → R i H' y) (hn : n ≤ 16000000)
    (turn : ∀ (i : Nat) (x : V) (H : Hp) (acc : List V) (Nx : Hp → Prop), i < n → src i x → Same H1 H → H D = some (.lst acc) → (∀ H3, Same H H3 → keep i = false → Nx H3) →
      (∀ y H4, Same H H4 → keep i = true → R i (hid D H4) y → ∃ acc, H4 D = some (.lst acc) ∧ acc.length < sizeLine ∧ Nx (upd H4 D (.lst (acc ++ [y])))) →
      g x (wipe σ vs) H fun σ2 H2 => wipe σ2 vs = wipe σ vs ∧ tt σ2 H2 fun b H3 => if b = true then te σ2 H3 fun y H4 => ∃ acc, H4 D = some (.lst acc) ∧ acc.length < sizeLine ∧ Nx (upd H4 D (.lst (acc ++ [y]))) else Nx H3)
    (done : ∀ H acc, Same H1 H → H D = some (.lst acc) → Out R keep n (hid D H) acc → Qd H) :
    ∃ W : Nat → Nat → Hp → Prop, (∃ m, W 0 m (upd H1 D (.lst []))) ∧ ∀ i m H, W i m H →
      (J.stop i H ∧ Qd H) ∨ (J.go i H ∧ ∃ Nx : Hp → Prop, (∀ H', Nx H' → ∃ m', m' < m ∧ W (i + 1) m' H') ∧ ∀ x H', J.yld i H x H' → g x (wipe σ vs) H' fun σ2 H2 => wipe σ2 vs = wipe σ vs ∧ tt σ2 H2 fun b H3 =>
        if b = true then te σ2 H3 fun y H4 => ∃ acc, H4 D = some (.lst acc) ∧ acc.length < sizeLine ∧ Nx (upd H4 D (.lst (acc ++ [y]))) else Nx H3) := by
  let Pv : Nat → Hp → Prop := fun i H => Same H1 H ∧ ∃ acc, H D = some (.lst acc) ∧ Out R keep i (hid D H) acc
  refine ⟨fun i m H => m = n - i ∧ i ≤ n ∧ Pv i H, ⟨n, by simp, Nat.zero_le _, same_upd hD, [], upd_same, .nil⟩, ?_⟩
  rintro i m H ⟨rfl, hi, s1, acc, hacc, out⟩
  by_cases hlt : i < n
  · refine .inr ⟨G.go i H (okS H s1) hlt, Pv (i + 1), fun H' p' => ⟨n - (i + 1), by omega, rfl, hlt, p'⟩, fun x H' y => ?_⟩
    obtain ⟨e, hx⟩ := G.yld i H x H' (okS H s1) hlt y
    subst e
    refine turn i x _ acc (Pv (i + 1)) hlt hx s1 hacc (fun H3 s3 hk => ⟨s1.trans s3, acc, s3 D _ hacc, ?_⟩) (fun y H4 s4 hk hr => ⟨acc, s4 D _ hacc, ?_, ?_, ?_⟩)
    · show Out R keep (i + 1) _ _
      unfold Out
      rw [kp_succ, if_neg (by rw [hk]; exact Bool.false_ne_true)]
      exact Paired.mapP out fun i y r => mono i _ _ y (rdS_of (hid_mono fun b o _ e => s3 b o e)) r
    · have hl : acc.length ≤ i := by
        have := Paired.length out
        have h2 := kp_len keep i
        omega
      exact lt_line (by omega)
    · exact fun b o e => by rw [upd_ne (ne_of_none e hD)]; exact s4 b o (s1 b o e)
    · refine ⟨acc ++ [y], upd_same, ?_⟩
      show Out R keep (i + 1) _ _
      unfold Out
      rw [kp_succ, if_pos hk, upd_hid]
      exact paired_app (Paired.mapP out fun i y r => mono i _ _ y (rdS_of (hid_mono fun b o _ e => s4 b o e)) r) hr
  · have e : i = n := by omega
    subst e
    exact .inl ⟨G.stop H (okS H s1), done H acc s1 hacc out⟩
/-- the same for a dict; key i is the key of turn i, no two alike -/
theorem dc_gen {J : It} {n : Nat} {src : Nat → V → Prop} {ok : Hp → Prop} {g : TG} {tt : TT} {tk tv : TE} {vs : List Nat} {σ : L2.St} {H1 : Hp} {D : Addr} {Qd : Hp → Prop} (G : Gen J n src ok) (hD : H1 D = none) (okS : ∀ H, Same H1 H → ok H)
    (R : Nat → Hp → V → Prop) (keep : Nat → Bool) (mono : ∀ i H H' y, RdS H H' → R i H y → R i H' y) (hn : n ≤ 16000000) (key : Nat → Key) (apart : ∀ i j, i < n → j < n → key i = key j → i = j)
    (turn : ∀ (i : Nat) (x : V) (H : Hp) (kvs : List (Key × V)) (Nx : Hp → Prop), i < n → src i x → Same H1 H → H D = some (.dK kvs) → (∀ H3, Same H H3 → keep i = false → Nx H3) →
      (∀ z H5, Same H H5 → keep i = true → R i (hid D H5) z → ∃ kvs k, kV (key i) = kV k ∧ H5 D = some (.dK kvs) ∧ kvs.length < sizeLine ∧ Nx (upd H5 D (.dK (putK kvs k z)))) →
      g x (wipe σ vs) H fun σ2 H2 => wipe σ2 vs = wipe σ vs ∧ tt σ2 H2 fun b H3 => if b = true then tk σ2 H3 fun y H4 => tv σ2 H4 fun z H5 => ∃ kvs k, y = kV k ∧ H5 D = some (.dK kvs) ∧ kvs.length < sizeLine ∧ Nx (upd H5 D (.dK (putK kvs k z))) else Nx H3)
    (done : ∀ H kvs, Same H1 H → H D = some (.dK kvs) → Paired (fun i q => q.1 = key i ∧ R i (hid D H) q.2) (kp keep n) kvs → Qd H) :
    ∃ W : Nat → Nat → Hp → Prop, (∃ m, W 0 m (upd H1 D (.dK []))) ∧ ∀ i m H, W i m H →
      (J.stop i H ∧ Qd H) ∨ (J.go i H ∧ ∃ Nx : Hp → Prop, (∀ H', Nx H' → ∃ m', m' < m ∧ W (i + 1) m' H') ∧ ∀ x H', J.yld i H x H' → g x (wipe σ vs) H' fun σ2 H2 => wipe σ2 vs = wipe σ vs ∧ tt σ2 H2 fun b H3 =>
        if b = true then tk σ2 H3 fun y H4 => tv σ2 H4 fun z H5 => ∃ kvs k, y = kV k ∧ H5 D = some (.dK kvs) ∧ kvs.length < sizeLine ∧ Nx (upd H5 D (.dK (putK kvs k z))) else Nx H3) := by
  let Pv : Nat → Hp → Prop := fun i H => Same H1 H ∧ ∃ kvs, H D = some (.dK kvs) ∧ Paired (fun i (q : Key × V) => q.1 = key i ∧ R i (hid D H) q.2) (kp keep i) kvs
  refine ⟨fun i m H => m = n - i ∧ i ≤ n ∧ Pv i H, ⟨n, by simp, Nat.zero_le _, same_upd hD, [], upd_same, .nil⟩, ?_⟩
  rintro i m H ⟨rfl, hi, s1, acc, hacc, out⟩
  by_cases hlt : i < n
  · refine .inr ⟨G.go i H (okS H s1) hlt, Pv (i + 1), fun H' p' => ⟨n - (i + 1), by omega, rfl, hlt, p'⟩, fun x H' y => ?_⟩
    obtain ⟨e, hx⟩ := G.yld i H x H' (okS H s1) hlt y
    subst e
    refine turn i x _ acc (Pv (i + 1)) hlt hx s1 hacc (fun H3 s3 hk => ⟨s1.trans s3, acc, s3 D _ hacc, ?_⟩) (fun z H5 s5 hk hr => ⟨acc, key i, rfl, s5 D _ hacc, ?_, ?_, ?_⟩)
    · show Paired _ (kp keep (i + 1)) _
      rw [kp_succ, if_neg (by rw [hk]; exact Bool.false_ne_true)]
      exact Paired.mapP out fun i y r => ⟨r.1, mono i _ _ _ (rdS_of (hid_mono fun b o _ e => s3 b o e)) r.2⟩
    · have hl : acc.length ≤ i := by
        have := Paired.length out
        have h2 := kp_len keep i
        omega
      exact lt_line (by omega)
    · exact fun b o e => by rw [upd_ne (ne_of_none e hD)]; exact s5 b o (s1 b o e)
    · have new : valV acc (key i) = none := by
        cases q : valV acc (key i) with
        | none => rfl
        | some v =>
          have hm := valV_in q
          obtain ⟨p, hp, e⟩ := List.mem_map.mp hm
          have key2 : ∀ {l : List Nat} {m : List (Key × V)}, Paired (fun i (q : Key × V) => q.1 = key i ∧ R i (hid D H') q.2) l m → ∀ p ∈ m, ∃ j ∈ l, p.1 = key j := by
            intro l m h
            induction h with
            | nil => intro p hp; cases hp
            | cons r t ih =>
              intro p hp
              rcases List.mem_cons.mp hp with e | hp
              · exact ⟨_, List.mem_cons_self, e ▸ r.1⟩
              · obtain ⟨j, hj, e⟩ := ih p hp
                exact ⟨j, List.mem_cons_of_mem _ hj, e⟩
          obtain ⟨j, hj, e2⟩ := key2 out p hp
          have hji : j < i := List.mem_range.mp (List.mem_filter.mp hj).1
          have := apart j i (by omega) hlt (e2.symm.trans e)
          omega
      refine ⟨acc ++ [(key i, z)], by rw [upd_same, putK_new _ new], ?_⟩
      rw [kp_succ, if_pos hk, upd_hid]
      exact paired_app (Paired.mapP out fun i y r => ⟨r.1, mono i _ _ _ (rdS_of (hid_mono fun b o _ e => s5 b o e)) r.2⟩) ⟨rfl, hr⟩
  · have e : i = n := by omega
    subst e
    exact .inl ⟨G.stop H (okS H s1), done H acc s1 hacc out⟩
/-- all turns kept: by places -/
theorem out_all {R : Nat → Hp → V → Prop} {n : Nat} {G : Hp} {acc : List V} (h : Out R (fun _ => true) n G acc) : acc.length = n ∧ ∀ i y, acc[i]? = some y → R i G y := by
  unfold Out at h
  rw [kp_all] at h
  have hl := Paired.length h
  rw [List.length_range] at hl
  refine ⟨hl.symm, fun i y e => ?_⟩
  have hi : i < n := by
    have := (List.getElem?_eq_some_iff.mp e).1
    omega
  have er : (List.range n)[i]? = some i := by rw [List.getElem?_range hi]
  obtain ⟨z, ez, r⟩ := paired_get h er
  rw [e] at ez
  cases ez
  exact r
theorem paired_ix2 {α β : Type} {F : α → β → Prop} : ∀ {a : List α} {b : List β}, a.length = b.length → (∀ (i : Nat) (x : α) (y : β), a[i]? = some x → b[i]? = some y → F x y) → Paired F a b
  | [], [], _, _ => .nil
  | [], _ :: _, h, _ => by cases h
  | _ :: _, [], h, _ => by cases h
  | x :: a, y :: b, h, f => .cons (f 0 x y rfl rfl) (paired_ix2 (by simpa using h) fun i u v e1 e2 => f (i + 1) u v (by simpa using e1) (by simpa using e2))
end Mw

end

section
set_option Elab.async false
set_option linter.all false
set_option maxRecDepth 100000
set_option maxHeartbeats 4000000
/-! is_key, items_of. -/
namespace Mw
open PySem PySem.Spec PyProof.Rows L2
abbrev sIsKey : Stmt := top 11
theorem scIsKey : FnScope ["value"] ["value"] (defScope sIsKey) := ⟨rfl, rfl, rfl, by decide +kernel, rfl, by decide +kernel, by decide +kernel⟩
def spIsKey : Sp := fun vs H Q _ => ∃ x : Str, vs = [.str x] ∧ 1 ≤ x.length ∧ x.length ≤ 100 ∧ Q (.bl true) H
abbrev sItems : Stmt := top 12
theorem scItems : FnScope ["value", "key"] ["value"] (defScope sItems) := ⟨rfl, rfl, rfl, by decide +kernel, rfl, by decide +kernel, by decide +kernel⟩
/-- the items of a container -/
def kids : PyData → List PyData
  | .list xs => xs
  | .tuple xs => xs
  | .dict kvs => kvs.map (·.2)
  | _ => []
abbrev PrT (H : Hp) : List Addr → List (Key × V) → Prop := Paired fun t q => H t = some (.tup [kV q.1, q.2])
theorem PrT.mono {H H' : Hp} (s : RdS H H') {ts : List Addr} {ps : List (Key × V)} (h : PrT H ts ps) : PrT H' ts ps := Paired.mapP h fun _ _ q => s.tup _ _ q
def spItems : Sp := fun vs H Q _ => ∃ (v : V) (d : PyData) (n : Nat), vs = [v] ∧ IsD H (n + 1) v d ∧ gd (n + 1) d ∧
  ∀ H' p ts prs, Same H H' → H' p = some (.lst (ts.map V.ref)) → PrT H' ts prs → Paired (fun q x => IsD H n q.2 x) prs (kids d) → Q (.ref p) H'
section
variable {P : Program} {w : World} {K : PySem.W.Frag} {mg : Str → Option Value} {base : Heap} {f : Addr} {fd : FuncData}
theorem ok_is_key (F : Df K mg "is_key" sIsKey ["value"] f fd) (B : Bi mg) (C : Co mg) : FnOk P w K mg base CX0 1 f fd ["value"] spIsKey := by
  obtain ⟨tk, hk⟩ := C.key
  refine F.fn.ok scIsKey (fun vs H Q E h => ?_) (fun cdv A outer s H vs Q E hr h => ?_)
  · obtain ⟨x, rfl, _⟩ := h
    rfl
  · obtain ⟨x, rfl, h1, hx, q⟩ := h
    refine ⟨_, pss_one (ps_ret (pe_and (pe_callB call_isi (by rfl) B.isinstance boot_isinstance (pa_cons (pv 0) (pa_cons (pe_bltn (v := .ty "str") (by rfl) B.str boot_str rfl) pa_nil)))
      (pe_one (pe_chain op_le op_le pe_int (pe_callB call_len_str (by rfl) B.len PySem.boot_len (pa_cons (pv 0) pa_nil)) (pe_glob (v := .int 200) (by rfl) hk ⟨_, rfl⟩))))), ?_⟩
    refine ⟨_, rfl, _, _, _, _, true, rfl, .ty "str", tyX_of (n := 0) (d := .str x) rfl, kit_ty kb_str_str, true, rfl, iteT ?_⟩
    refine ⟨_, rfl, _, rfl, le_line (by omega), ?_⟩
    refine ⟨_, _, rfl, rfl, _, rfl, ifT (decide_eq_true (by omega)) ?_⟩
    exact ⟨_, _, rfl, rfl, qb (decide_eq_true (by omega)) q⟩
theorem paired_right {α β γ : Type} {F : α → β → Prop} {G : α → γ → Prop} {g : β → γ} (h : ∀ a b, F a b → G a (g b)) : ∀ {l : List α} {m : List β}, Paired F l m → Paired G l (m.map g)
  | _, _, .nil => .nil
  | _, _, .cons r t => .cons (h _ _ r) (paired_right h t)
theorem paired_idx {F : V → PyData → Prop} {vs : List V} {xs : List PyData} (h : Paired F vs xs) : Paired (fun (q : Key × V) x => F q.2 x) (idx vs) xs := by
  have key : ∀ {vs : List V} {xs : List PyData} (k : Nat), Paired F vs xs → Paired (fun (q : Key × V) x => F q.2 x) ((vs.zipIdx k).map fun p => ((.inl (p.2 : Int) : Key), p.1)) xs := by
    intro vs xs k h
    induction h generalizing k with
    | nil => exact .nil
    | cons r t ih =>
      rw [List.zipIdx_cons, List.map_cons]
      exact .cons r (ih (k + 1))
  exact key 0 h
theorem refs_of {F : Nat → Addr → Prop} : ∀ {l : List V}, (∀ i y, l[i]? = some y → ∃ t, y = .ref t ∧ F i t) → ∃ ts : List Addr, l = ts.map V.ref ∧ ∀ i t, ts[i]? = some t → F i t
  | [], _ => ⟨[], rfl, fun i t e => by simp at e⟩
  | y :: r, h => by
    obtain ⟨t, e, f⟩ := h 0 y rfl
    obtain ⟨ts, e2, f2⟩ := refs_of (F := fun i t => F (i + 1) t) (l := r) fun i y e => h (i + 1) y (by simpa using e)
    refine ⟨t :: ts, by rw [e, e2]; rfl, fun i t' e3 => ?_⟩
    cases i with
    | zero => cases e3; exact f
    | succ i => exact f2 i t' (by simpa using e3)
theorem ok_items (F : Df K mg "items_of" sItems ["value"] f fd) (B : Bi mg) : FnOk P w K mg base CX0 1 f fd ["value"] spItems := by
  refine F.fn.ok scItems (fun vs H Q E h => ?_) (fun cdv A outer s H vs Q E hr h => ?_)
  · obtain ⟨v, d, n, rfl, _⟩ := h
    rfl
  · obtain ⟨v, d, n, rfl, hd, hl, q⟩ := h
    have hu := hu_of hr
    refine ⟨_, pss_cons (ps_if (pt_val (pe_callB call_isi (by rfl) B.isinstance boot_isinstance (pa_cons (pv 0) (pa_cons (pe_bltn (v := .ty "dict") (by rfl) B.dict boot_dict rfl) pa_nil))))
        (pss_one (ps_ret (pe_lockR (pe_lc (own := [("key", 1)]) (g := gName 1) (tt := tYes) rfl scItems.nd (pi_keys (pv 0)) (blkOk_by (N := ["value", "key"]) (sc := defScope sItems) (by decide +kernel))
          (fun _ _ _ _ _ => pg_name (i := 1) scItems.nd rfl (Or.inl rfl)) (fun _ _ _ _ _ => pts_nil) (fun _ _ _ _ _ => pe_tup (pa_cons (pv 1) (pa_cons (pe_dget hu (pv 0) (pv 1) (fun _ _ => rfl)) pa_nil))))))) pss_nil)
      (pss_one (ps_ret (pe_ifExp (pt_val (pe_callB call_isiT (by rfl) B.isinstance boot_isinstance (pa_cons (pv 0) (pa_cons (pe_tup (pa_cons (pe_bltn (v := .ty "list") (by rfl) B.list boot_list rfl) (pa_cons (pe_bltn (v := .ty "tuple") (by rfl) B.tuple boot_tuple rfl) pa_nil))) pa_nil))))
        (pe_listEnum rfl (pv 0) (by rfl) B.list (by rfl) B.enumerate) (pe_lst pa_nil)))), ?_⟩
    refine ⟨_, rfl, _, _, _, _, _, rfl, .ty "dict", tyX_of hd, kit_ty (kDi d), _, rfl, ?_⟩
    cases hdi : isDi d with
    | true =>
      refine iteT ?_
      obtain ⟨p, ks, ds, rfl, rfl, hrd, hkv⟩ : ∃ (p : Addr) (ks : List (Key × V)) (ds : Mp), v = .ref p ∧ d = .dict (ds.map fun q => (.str q.1, q.2)) ∧ Rd H p (.dK ks) ∧ KvD H n ks ds := by
        rcases hd with h | ⟨p, vs, xs, e1, e2, hr', hp⟩ | ⟨p, vs, xs, e1, e2, hr', hp⟩ | ⟨p, ks, ds, e1, e2, hr', hp⟩
        · cases d <;> simp [isDi, atV] at hdi h
        · subst e2; cases hdi
        · subst e2; cases hdi
        · exact ⟨p, ks, ds, e1, e2, hr', hp⟩
      refine ⟨p, ks, hrd, fun od H1 h1 rs off => ?_⟩
      have hlen : ks.length = ds.length := Paired.length hkv
      have hl' : ds.length ≤ 40 := by simpa using hl.1
      have nd := hkv.nodup (gd_keys hl)
      refine ⟨_, rfl, p, od, rfl, .inl ⟨ks, h1, fun D hD => lc_gen gen_keys hD (fun H s' => s' _ _ h1)
        (fun i G y => ∃ t k v, y = .ref t ∧ ks[i]? = some (k, v) ∧ G t = some (.tup [kV k, v])) (fun _ => true)
        (fun i G G' y s' ⟨t, k, v, e1, e2, e3⟩ => ⟨t, k, v, e1, e2, s'.tup _ _ e3⟩) (by omega) ?_ ?_⟩⟩
      · rintro i x H2 acc Nx hi ⟨k, v, e1, rfl⟩ s2 hacc _ nx
        refine ⟨rfl, ?_⟩
        refine ifT (B := Nx H2) rfl ?_
        have hd2 : Rd H2 p (.dK ks) := .inr ⟨od, s2 _ _ h1⟩
        refine ⟨_, rfl, _, rfl, _, rfl, p, v, rfl, .inl ⟨ks, k, hd2, rfl, (valV_get nd e1).symm⟩, l2_line, fun t ht => ?_⟩
        refine nx (.ref t) _ (same_upd ht) rfl ⟨t, k, v, rfl, e1, ?_⟩
        rw [hid_ne (ne_of_none hacc ht).symm, upd_same]
      · intro H2 acc s2 hD2 out
        obtain ⟨hal, hag⟩ := out_all out
        refine ⟨s2 _ _ h1, fun H3 sb rs2 off2 => ?_⟩
        obtain ⟨ts, e, ht⟩ := refs_of (l := acc) (F := fun i t => ∃ k v, ks[i]? = some (k, v) ∧ H2 t = some (.tup [kV k, v])) fun i y e => by
          obtain ⟨t, k, v, e1, e2, e3⟩ := hag i y e
          exact ⟨t, e1, k, v, e2, hid_sub _ _ e3⟩
        subst e
        have sH := rs.trans ((rdS_of s2).trans rs2)
        refine q H3 D ts ks (sb s2) (rs2.lst _ _ hD2) ?_ ?_
        · refine paired_ix2 (by simpa using hal) fun i t q e1 e2 => ?_
          obtain ⟨k, v, e3, e4⟩ := ht i t e1
          rw [e3] at e2; cases e2
          exact rs2.tup _ _ e4
        · show Paired _ ks ((ds.map _).map _)
          rw [List.map_map]
          exact paired_right (F := fun a b => a.1 = .inr b.1 ∧ IsD H n a.2 b.2) (fun a b h => h.2) hkv
    | false =>
      refine iteF ?_
      refine ⟨_, rfl, (by decide), fun p hp => ?_⟩
      refine ⟨v, p, _, _, _, _, rfl, upd_same, tys_of ["list", "tuple"], tyX_of (hd.mono (rdS_of (same_upd hp))), kitL_ok (kLT d), _, rfl, ?_⟩
      cases hlt : isLT d with
      | true =>
        refine iteT ?_
        obtain ⟨a, vs, xs, rfl, hseq, hkd, hp2⟩ : ∃ a vs xs, v = .ref a ∧ (SqL K (upd H p (.tup [V.ty "list", V.ty "tuple"])) a vs ∨ SqT K (upd H p (.tup [V.ty "list", V.ty "tuple"])) a vs) ∧ kids d = xs ∧ Paired (IsD H n) vs xs := by
          have sp := rdS_of (same_upd (o := .tup [V.ty "list", V.ty "tuple"]) hp)
          rcases hd with h | ⟨p, vs, xs, e1, e2, hr', hp⟩ | ⟨p, vs, xs, e1, e2, hr', hp⟩ | ⟨p, ks, ds, e1, e2, hr', hp⟩
          · cases d <;> simp [isLT, atV] at hlt h
          · subst e2; exact ⟨p, vs, xs, e1, .inl (sp.seq (.of hr')), rfl, hp⟩
          · subst e2; exact ⟨p, vs, xs, e1, .inr (sp.seqT (.of hr')), rfl, hp⟩
          · subst e2; cases hlt
        refine ⟨_, rfl, a, vs, rfl, hseq, fun H' l ts s2 hl2 pr => ?_⟩
        refine q H' l ts (idx vs) (Same.trans (same_upd hp) s2) hl2 pr ?_
        rw [hkd]
        exact paired_idx hp2
      | false =>
        refine iteF ?_
        refine ⟨(by decide), fun l hl' => ?_⟩
        refine q _ l [] [] (Same.trans (same_upd hp) (same_upd hl')) upd_same .nil ?_
        have e : kids d = [] := by cases d <;> simp [isDi, isLT, kids] at hdi hlt ⊢
        rw [e]
        exact .nil
end
end Mw

end

section
set_option Elab.async false
set_option linter.all false
set_option maxRecDepth 100000
set_option maxHeartbeats 4000000
/-! is_wrong_part. -/
namespace Mw
open PySem PySem.Spec PyProof.Rows L2
abbrev sWrong : Stmt := top 13
theorem scWrong : FnScope ["value", "depth", "key"] ["value", "depth"] (defScope sWrong) := ⟨rfl, rfl, rfl, by decide +kernel, rfl, by decide +kernel, by decide +kernel⟩
def spWrong : Sp := fun vs H Q _ => ∃ (v : V) (d : PyData) (n : Nat) (k : Int), vs = [v, .int k] ∧ IsD H n v d ∧ gd n d ∧ k < 20 ∧ ∀ H', Same H H' → Q (.bl false) H'
theorem isD_flat {H : Hp} {n : Nat} {v u : V} {d : PyData} (h : IsD H n v d) (e : atV d = some u) : v = u := by
  cases n with
  | zero =>
    have h' : atV d = some v := h
    rw [e] at h'
    exact (Option.some.inj h').symm
  | succ n =>
    rcases h with h | ⟨p, vs, xs, e1, e2, _⟩ | ⟨p, vs, xs, e1, e2, _⟩ | ⟨p, ks, ds, e1, e2, _⟩
    · rw [e] at h
      exact (Option.some.inj h).symm
    · subst e2; cases e
    · subst e2; cases e
    · subst e2; cases e
theorem gd_lenD {n : Nat} {d : PyData} (h : gd n d) : lenD d ≤ 40 := by
  cases n <;> cases d <;> first | exact h.1 | exact h.elim | exact Nat.zero_le _
theorem log60 {m : Nat} (h : m < 10 ^ 18) : m.log2 < 60 := by
  by_cases e : m = 0
  · subst e; decide
  · exact (Nat.log2_lt e).mpr (Nat.lt_of_lt_of_le h (by decide))
theorem kd_ltd {d : PyData} (h : isLTD d = true) : 4 ≤ kd d := by cases d <;> first | (cases h; done) | simp [kd]
/-- a dict in the heap -/
theorem isD_dict {H : Hp} {n : Nat} {v : V} {d : PyData} (hd : IsD H n v d) (hdi : isDi d = true) : ∃ (m : Nat) (p : Addr) (ks : List (Key × V)) (ds : Mp), n = m + 1 ∧ v = .ref p ∧ d = .dict (ds.map fun q => (.str q.1, q.2)) ∧ Rd H p (.dK ks) ∧ KvD H m ks ds := by
  have flat : atV d = some v → False := fun h => by cases d <;> simp [isDi, atV] at hdi h
  cases n with
  | zero => exact (flat hd).elim
  | succ n =>
    rcases hd with h | ⟨p, vs, xs, e1, e2, hr', hp⟩ | ⟨p, vs, xs, e1, e2, hr', hp⟩ | ⟨p, ks, ds, e1, e2, hr', hp⟩
    · exact (flat h).elim
    · subst e2; cases hdi
    · subst e2; cases hdi
    · exact ⟨n, p, ks, ds, rfl, e1, e2, hr', hp⟩
section
variable {P : Program} {w : World} {K : PySem.W.Frag} {mg : Str → Option Value} {base : Heap} {f : Addr} {fd : FuncData}
theorem ok_wrong (F : Df K mg "is_wrong_part" sWrong ["value", "depth"] f fd) (B : Bi mg) (C : Co mg) : FnOk P w K mg base CX0 1 f fd ["value", "depth"] spWrong := by
  obtain ⟨t1, c1⟩ := C.digits
  obtain ⟨t2, c2⟩ := C.items
  obtain ⟨t3, c3⟩ := C.levels
  refine F.fn.ok scWrong (fun vs H Q E h => ?_) (fun cdv A outer s H vs Q E hr h => ?_)
  · obtain ⟨v, d, n, k, rfl, _⟩ := h
    rfl
  · obtain ⟨v, d, n, k, rfl, hd, hg, hk, q⟩ := h
    have hu := hu_of hr
    refine ⟨_, pss_cons (ps_if (PW.pt (pw_or (pt_cmpR op_isN (pv 0) pe_non (nomark _)) (pw_or1 (pt_val (pe_callB call_isi (by rfl) B.isinstance boot_isinstance (pa_cons (pv 0) (pa_cons (pe_bltn (v := .ty "bool") (by rfl) B.bool (by decide +kernel) rfl) pa_nil)))))))
        (pss_one (ps_ret pe_bl)) pss_nil)
      (pss_cons (ps_if (pt_val (pe_callB call_isi (by rfl) B.isinstance boot_isinstance (pa_cons (pv 0) (pa_cons (pe_bltn (v := .ty "int") (by rfl) B.int (by decide +kernel) rfl) pa_nil))))
        (pss_one (ps_ret (pe_cmpR op_gt (pe_callB call_len_str (by rfl) B.len PySem.boot_len (pa_cons (pe_callTy call_str_int (by rfl) B.str (by decide +kernel) (pa_cons (pe_callB call_abs (by rfl) B.abs (by decide +kernel) (pa_cons (pv 0) pa_nil)) pa_nil)) pa_nil)) (pe_glob (v := .int 100) (by rfl) c1 ⟨_, rfl⟩) (nomark _)))) pss_nil)
      (pss_cons (ps_if (pt_val (pe_callB call_isi (by rfl) B.isinstance boot_isinstance (pa_cons (pv 0) (pa_cons (pe_bltn (v := .ty "str") (by rfl) B.str boot_str rfl) pa_nil))))
        (pss_one (ps_ret (pe_cmpR op_gt (pe_callB call_len_str (by rfl) B.len PySem.boot_len (pa_cons (pv 0) pa_nil)) (pe_glob (v := .int 10000) (by rfl) c2 ⟨_, rfl⟩) (nomark _)))) pss_nil)
      (pss_cons (ps_if (PW.pt (pw_or (pt_not (pt_val (pe_callB call_isiT (by rfl) B.isinstance boot_isinstance (pa_cons (pv 0) (pa_cons (pe_tup (pa_cons (pe_bltn (v := .ty "list") (by rfl) B.list boot_list rfl) (pa_cons (pe_bltn (v := .ty "tuple") (by rfl) B.tuple boot_tuple rfl) (pa_cons (pe_bltn (v := .ty "dict") (by rfl) B.dict boot_dict rfl) pa_nil)))) pa_nil)))))
          (pw_or (pt_cmpR op_ge (pv 1) (pe_glob (v := .int 20) (by rfl) c3 ⟨_, rfl⟩) (nomark _)) (pw_or1 (pt_cmpR op_gt (pe_callB call_lenA (by rfl) B.len PySem.boot_len (pa_cons (pv 0) pa_nil)) (pe_glob (v := .int 10000) (by rfl) c2 ⟨_, rfl⟩) (nomark _))))))
        (pss_one (ps_ret pe_bl)) pss_nil)
      (pss_one (ps_ret (pe_and (pe_callB (call_isiK (K := K) rfl) (by rfl) B.isinstance boot_isinstance (pa_cons (pv 0) (pa_cons (pe_bltn (v := .ty "dict") (by rfl) B.dict boot_dict rfl) pa_nil)))
        (pe_one (pe_not (pe_callB (cr_all rfl) (by rfl) B.all (by decide +kernel) (pa_cons (pe_lockR (pe_lc (own := [("key", 2)]) (g := gName 2) (tt := tYes) rfl scWrong.nd (pi_keys (pv 0)) (blkOk_by (N := ["value", "depth", "key"]) (sc := defScope sWrong) (by decide +kernel))
          (fun _ _ _ _ _ => pg_name (i := 2) scWrong.nd rfl (Or.inl rfl)) (fun _ _ _ _ _ => pts_nil)
          (fun _ _ _ _ _ => pe_and (pe_callB (call_isiK (K := K) rfl) (by rfl) B.isinstance boot_isinstance (pa_cons (pv 2) (pa_cons (pe_bltn (v := .ty "str") (by rfl) B.str boot_str rfl) pa_nil))) (pe_one (pe_cmpR op_le (pe_callB call_len_str (by rfl) B.len PySem.boot_len (pa_cons (pv 2) pa_nil)) (pe_glob (v := .int 10000) (by rfl) c2 ⟨_, rfl⟩) (nomark _)))))) pa_nil)))))))))), ?_⟩
    -- value is None or isinstance(value, bool)
    refine ⟨_, rfl, rfl, _, rfl, ?_⟩
    cases hn : decide (v = V.non) with
    | true => exact iteT (iteT (q H (fun _ _ z => z)))
    | false =>
    refine iteF ⟨_, rfl, _, _, _, _, _, rfl, .ty "bool", tyX_of hd, kit_ty (kBo d), _, rfl, ?_⟩
    cases hb : isBo d with
    | true => exact iteT (q H (fun _ _ z => z))
    | false =>
    refine iteF ⟨_, rfl, _, _, _, _, _, rfl, .ty "int", tyX_of hd, kit_ty (kIn d), _, rfl, ?_⟩
    cases hi : isIn d with
    | true =>
      obtain ⟨i, rfl⟩ : ∃ i, d = .int i := by cases d <;> simp [isBo, isIn] at hb hi ⊢
      obtain rfl := isD_flat hd (u := .int i) rfl
      have hi' : i.natAbs < 10 ^ 18 := by cases n <;> exact hg
      have hj : (if i < 0 then -i else i).natAbs < 10 ^ 18 := by split <;> omega
      refine iteT ⟨_, rfl, _, rfl, _, rfl, ?_, _, rfl, ?_, _, _, rfl, rfl, qb ?_ (q H fun _ _ z => z)⟩
      · have := Nat.log2_le_self (if i < 0 then -i else i).natAbs
        have h2 : (if i < 0 then -i else i).natAbs.log2 < 60 := log60 hj
        omega
      · have hl := int_len hj
        have e : (cs (Str.ofString (toString (if i < 0 then -i else i)))).length = (Str.ofString (toString (if i < 0 then -i else i))).length := Array.length_toList
        exact le_line (by omega)
      · have hl := int_len hj
        have e : (cs (Str.ofString (toString (if i < 0 then -i else i)))).length = (Str.ofString (toString (if i < 0 then -i else i))).length := Array.length_toList
        exact decide_eq_false (by omega)
    | false =>
    refine iteF ⟨_, rfl, _, _, _, _, _, rfl, .ty "str", tyX_of hd, kit_ty (kStr d), _, rfl, ?_⟩
    cases hs : isStr d with
    | true =>
      obtain ⟨x, rfl⟩ : ∃ i, d = .str i := by cases d <;> simp [isStr] at hs ⊢
      obtain rfl := isD_flat hd (u := .str x) rfl
      have hx : x.length ≤ 5 := by cases n <;> exact hg.2
      exact iteT ⟨_, rfl, _, rfl, le_line (by omega), _, _, rfl, rfl, qb (decide_eq_false (by omega)) (q H fun _ _ z => z)⟩
    | false =>
    have hltd : isLTD d = true := by
      cases d with
      | none => rw [isD_flat hd (u := .non) rfl] at hn; simp at hn
      | bool _ => cases hb
      | int _ => cases hi
      | str _ => cases hs
      | list _ => rfl
      | tuple _ => rfl
      | dict _ => rfl
    refine iteF ⟨_, rfl, l3_line, fun p hp => ?_⟩
    have s1 : Same H (upd H p (.tup [V.ty "list", V.ty "tuple", V.ty "dict"])) := same_upd hp
    have hd1 := hd.mono (rdS_of s1)
    refine ⟨v, p, _, _, _, _, rfl, upd_same, tys_of ["list", "tuple", "dict"], tyX_of hd1, kitL_ok (kLTD d), _, rfl, ?_⟩
    rw [hltd]
    refine ⟨_, rfl, _, _, rfl, rfl, _, rfl, ?_⟩
    refine ifF (decide_eq_false (by omega)) ?_
    have hl3 := gd_lenD hg
    refine ⟨_, rfl, _, _, rfl, lenA_of hd1 (kd_ltd hltd), _, _, rfl, rfl, _, rfl, ?_⟩
    refine ifF (decide_eq_false (by omega)) ?_
    refine ⟨_, rfl, _, _, _, _, _, rfl, .ty "dict", tyX_of hd1, kit_ty (kDi d), _, rfl, ?_⟩
    cases hdi : isDi d with
    | false => exact iteF (q _ s1)
    | true =>
    obtain ⟨m, dp, ks, ds, rfl, rfl, rfl, hrd, hkv⟩ := isD_dict hd1 hdi
    refine iteT ⟨dp, ks, hrd, fun od H1 h1 rs off => ?_⟩
    have hlen : ks.length = ds.length := Paired.length hkv
    have hl' : ds.length ≤ 40 := by simpa using hg.1
    refine ⟨_, rfl, dp, od, rfl, .inl ⟨ks, h1, fun D hD => lc_gen gen_keys hD (fun H s' => s' _ _ h1)
        (fun i G y => y = .bl true) (fun _ => true) (fun i G G' y s' e => e) (by omega) ?_ ?_⟩⟩
    · rintro i x H2 acc Nx hi ⟨k, v, e1, rfl⟩ s2 hacc _ nx
      obtain ⟨j, x, e2, rfl, hx⟩ := hkv.get e1
      have hj : j.length ≤ 5 := by
        have hm : ((.str j, x) : PyData × PyData) ∈ ds.map fun q => ((.str q.1, q.2) : PyData × PyData) := List.mem_map_of_mem (f := fun q => ((.str q.1, q.2) : PyData × PyData)) (List.mem_of_getElem? e2)
        obtain ⟨⟨k, e, _, hk⟩, _⟩ := hg.2.1 _ hm
        cases e
        exact hk
      refine ⟨rfl, ifT (B := Nx H2) rfl ?_⟩
      refine ⟨_, rfl, _, _, _, _, _, rfl, .ty "str", .base (.str _), kit_ty kb_str_str, _, rfl, iteT ?_⟩
      refine ⟨_, rfl, _, rfl, le_line (by omega), _, _, rfl, rfl, ?_⟩
      exact nx _ _ (fun _ _ z => z) rfl (congrArg V.bl (decide_eq_true (by omega)))
    · intro H2 acc s2 hD2 out
      obtain ⟨hal, hag⟩ := out_all out
      refine ⟨s2 _ _ h1, fun H3 sb rs2 off2 => ?_⟩
      obtain rfl : acc = (List.replicate ks.length true).map V.bl := by
        apply List.ext_getElem?
        intro i
        by_cases hi : i < acc.length
        · rw [List.getElem?_eq_getElem hi, hag i _ (List.getElem?_eq_getElem hi)]
          simp [hal ▸ hi]
        · simp [hal ▸ hi]
          omega
      refine ⟨_, _, rfl, .inl (.inl (rs2.lst _ _ hD2)), _, rfl, ?_⟩
      refine qb ?_ (q _ (s1.trans (sb s2)))
      rw [List.all_replicate]
      simp
end
end Mw

end

section
set_option Elab.async false
set_option linter.all false
set_option maxRecDepth 100000
set_option maxHeartbeats 4000000
/-! wrong_path, check_value, is_value. -/
namespace Mw
open PySem PySem.Spec PyProof.Rows L2
abbrev sWPath : Stmt := top 14
theorem scWPath : FnScope ["value", "path", "step", "item", "found"] ["value", "path"] (defScope sWPath) := ⟨rfl, rfl, rfl, by decide +kernel, rfl, by decide +kernel, by decide +kernel⟩
def spWPath (K : PySem.W.Frag) (n : Nat) : Sp := fun vs H Q _ => ∃ (m : Nat) (v : V) (d : PyData) (tp : Addr) (xs : List V), n = m + 1 ∧ vs = [v, .ref tp] ∧ IsD H m v d ∧ gd m d ∧ SqT K H tp xs ∧ xs.length + m < 20 ∧ ∀ H', Same H H' → Q .non H'
theorem gd_kids {j : Nat} {d : PyData} (h : gd (j + 1) d) : ∀ x ∈ kids d, gd j x := by
  cases d with
  | list xs => exact h.2
  | tuple xs => exact h.2
  | dict kvs =>
    intro x hx
    obtain ⟨p, hp, e⟩ := List.mem_map.mp hx
    exact e ▸ (h.2.1 p hp).2
  | _ => intro x hx; cases hx
theorem gd_up0 {d : PyData} (h : gd 0 d) : gd 1 d := by cases d <;> first | exact h | exact h.elim
theorem kids0 {d : PyData} (h : gd 0 d) : kids d = [] := by cases d <;> first | rfl | exact h.elim
theorem step_down {H : Hp} {m : Nat} {v : V} {d : PyData} (hd : IsD H m v d) (hg : gd m d) : ∃ j, IsD H (j + 1) v d ∧ gd (j + 1) d ∧ (kids d = [] ∨ m = j + 1) := by
  cases m with
  | zero => exact ⟨0, hd.up, gd_up0 hg, .inl (kids0 hg)⟩
  | succ j => exact ⟨j, hd, hg, .inr rfl⟩
section
variable {P : Program} {w : World} {K : PySem.W.Frag} {mg : Str → Option Value} {base : Heap} {f fw fi : Addr} {fd fwd fid : FuncData}
theorem sqT_mono {K : PySem.W.Frag} {H H' : Hp} {a : Addr} {xs : List V} (s : Same H H') (h : SqT K H a xs) : SqT K H' a xs := (rdS_of s).seqT h
theorem rCatA_one {K : PySem.W.Frag} {H : Hp} {tp p : Addr} {xs : List V} {k : V} {Q : VK} (htp : SqT K H tp xs) (hp : H p = some (.tup [k])) (hl : xs.length + 1 ≤ sizeLine) (q : ∀ pp xs' H', Same H H' → SqT K H' pp xs' → xs'.length = xs.length + 1 → Q (.ref pp) H') : rCatA K (.ref tp) (.ref p) H Q := by
  refine ⟨tp, p, xs, [k], rfl, rfl, htp, SqT.of hp, hl, fun z => ?_, (fun _ z => nomatch z), fun _ _ p' hp' => ?_⟩
  · exact q p [k] H (fun _ _ z => z) (SqT.of hp) (by rw [z]; rfl)
  · exact q p' _ _ (same_upd hp') (SqT.of upd_same) (by simp)
theorem none_path {k : Nat} : FnOk P w K mg base CX0 k f fd ["value", "path"] (spWPath K 0) := by
  have no : ∀ vs H Q E, ¬ spWPath K 0 vs H Q E := fun vs H Q E h => by
    obtain ⟨m, v, d, tp, xs, e, _⟩ := h
    omega
  exact ⟨fun vs H Q E h => absurd h (no vs H Q E), fun A outer s H args us vs Q E _ _ _ _ h => absurd h (no vs H Q E)⟩
theorem ok_wpath1 {n : Nat} (F : Df K mg "wrong_path" sWPath ["value", "path"] f fd) (B : Bi mg) (W : Df K mg "is_wrong_part" sWrong ["value", "depth"] fw fwd) (I : Df K mg "items_of" sItems ["value"] fi fid)
    (GW : FnOk P w K mg base CX0 1 fw fwd ["value", "depth"] spWrong) (GI : FnOk P w K mg base CX0 1 fi fid ["value"] spItems) (G : FnOk P w K mg base CX0 (n + 1) f fd ["value", "path"] (spWPath K n)) :
    FnOk P w K mg base CX0 (n + 2) f fd ["value", "path"] (spWPath K (n + 1)) := by
  refine F.fn.ok scWPath (fun vs H Q E h => ?_) (fun cdv A outer s H vs Q E hr h => ?_)
  · obtain ⟨m, v, d, tp, xs, _, rfl, _⟩ := h
    rfl
  · obtain ⟨m, v, d, tp, xs, e, rfl, hd, hg, htp, hk, q⟩ := h
    obtain rfl : n = m := by omega
    have hr1 := hr.mono (by omega : 1 ≤ n + 1)
    refine ⟨_, pss_cons (ps_if (pt_val (pe_call GW hr1 rfl W.m W.fn.kp W.b .nil pass0 (pa_cons (pv 0) (pa_cons (pe_callB call_len_seq (by rfl) B.len PySem.boot_len (pa_cons (pv 1) pa_nil)) pa_nil)))) (pss_one (ps_ret (pv 1))) pss_nil)
      (pss_cons (ps_for PassesOwn.never rfl (pi_list (pe_call GI hr1 rfl I.m I.fn.kp I.b .nil pass0 (pa_cons (pv 0) pa_nil))) (pg_tup rfl (pgs_cons (pg_name (i := 2) scWPath.nd rfl (Or.inl rfl)) (pgs_cons (pg_name (i := 3) scWPath.nd rfl (Or.inl rfl)) pgs_nil)))
        (pss_cons (ps_set (i := 4) scWPath.nd rfl (Or.inl rfl) (pe_call G hr rfl F.m F.fn.kp F.b .nil pass0 (pa_cons (pv 3) (pa_cons (pe_op op_catA (pv 1) (pe_tup (pa_cons (pv 2) pa_nil))) pa_nil))))
          (pss_one (ps_if (pt_cmpR op_notN (pv 4) pe_non (nomark _)) (pss_one (ps_ret (pv 4))) pss_nil))))
      (pss_one (ps_ret pe_non))), ?_⟩
    refine ⟨_, rfl, _, rfl, tp, xs, rfl, .inr htp, v, d, n, (xs.length : Int), rfl, hd, hg, by omega, fun H1 s1 => ⟨_, rfl, iteF ?_⟩⟩
    obtain ⟨j, hd', hg', hkj⟩ := step_down (hd.mono (rdS_of s1)) hg
    refine ⟨_, rfl, v, d, j, rfl, hd', hg', fun H2 p ts prs s2 hp hts hkd => ?_⟩
    have hlen : ts.length ≤ 40 := by
      have e1 := Paired.length hts
      have e2 := Paired.length hkd
      have e3 := gd_lenD hg'
      have e4 : (kids d).length = lenD d := by cases d <;> simp [kids, lenD]
      omega
    refine ⟨p, rfl, ⟨_, SqL.of hp⟩, for_list (xs := ts.map V.ref) (fun i σ H3 => Same H2 H3 ∧ ∃ a b c, σ = [some v, some (.ref tp), a, b, c])
      ⟨fun _ _ z => z, _, _, _, rfl⟩ (fun i σ H3 _ h => SqL.of (h.1 _ _ hp)) ?_ ?_⟩
    · rintro i x σ H3 hx ⟨s3, a, b, c, rfl⟩
      obtain ⟨t, ht, rfl⟩ : ∃ t, ts[i]? = some t ∧ x = .ref t := by
        rw [List.getElem?_map] at hx
        cases e : ts[i]? with
        | none => rw [e] at hx; cases hx
        | some t => rw [e] at hx; exact ⟨t, rfl, (Option.some.inj hx).symm⟩
      obtain ⟨⟨k, u⟩, hq, htup⟩ := paired_get hts ht
      obtain ⟨y, hy, hu⟩ := paired_get hkd hq
      have hj : n = j + 1 := hkj.resolve_left fun z => by rw [z] at hy; simp at hy
      have hgy : gd j y := gd_kids hg' y (List.mem_of_getElem? hy)
      refine ⟨t, _, rfl, SqT.of (s3 _ _ htup), rfl, kV k, [u], rfl, u, [], rfl, rfl, ?_⟩
      refine ⟨_, rfl, _, rfl, _, rfl, l1_line, fun p1 hp1 => ?_⟩
      have s4 : Same H3 (upd H3 p1 (.tup [kV k])) := same_upd hp1
      refine rCatA_one (K := K) (sqT_mono (s1.trans (s2.trans (s3.trans s4))) htp) upd_same (le_line (by omega)) fun pp xs' H5 s5 hpp hl => ?_
      refine ⟨j, u, y, pp, xs', hj, rfl, hu.mono (rdS_of (s2.trans (s3.trans (s4.trans s5)))), hgy, hpp, by omega, fun H6 s6 => ?_⟩
      refine ⟨_, rfl, rfl, _, rfl, iteF ⟨s3.trans (s4.trans (s5.trans s6)), _, _, _, rfl⟩⟩
    · rintro σ H3 ⟨s3, a, b, c, rfl⟩
      exact q H3 (s1.trans (s2.trans s3))
end
end Mw

end

section
set_option Elab.async false
set_option linter.all false
set_option maxRecDepth 100000
set_option maxHeartbeats 4000000
/-! check_value, is_value. -/
namespace Mw
open PySem PySem.Spec PyProof.Rows L2
abbrev sChk : Stmt := top 15
theorem scChk : FnScope ["value", "path"] ["value"] (defScope sChk) := ⟨rfl, rfl, rfl, by decide +kernel, rfl, by decide +kernel, by decide +kernel⟩
def spChk : Sp := fun vs H Q _ => ∃ (v : V) (d : PyData), vs = [v] ∧ IsD H 1 v d ∧ gd 1 d ∧ ∀ H', Same H H' → Q .non H'
abbrev sIsV : Stmt := top 16
theorem scIsV : FnScope ["value"] ["value"] (defScope sIsV) := ⟨rfl, rfl, rfl, by decide +kernel, rfl, by decide +kernel, by decide +kernel⟩
def spIsV : Sp := fun vs H Q _ => ∃ (v : V) (d : PyData), vs = [v] ∧ IsD H 1 v d ∧ gd 1 d ∧ ∀ H', Same H H' → Q (.bl true) H'
section
variable {P : Program} {w : World} {K : PySem.W.Frag} {mg : Str → Option Value} {base : Heap} {f fw fi fp : Addr} {fd fwd fid fpd : FuncData}
theorem ok_wpath (F : Df K mg "wrong_path" sWPath ["value", "path"] f fd) (B : Bi mg) (W : Df K mg "is_wrong_part" sWrong ["value", "depth"] fw fwd) (I : Df K mg "items_of" sItems ["value"] fi fid)
    (GW : FnOk P w K mg base CX0 1 fw fwd ["value", "depth"] spWrong) (GI : FnOk P w K mg base CX0 1 fi fid ["value"] spItems) : ∀ n, FnOk P w K mg base CX0 (n + 1) f fd ["value", "path"] (spWPath K n)
  | 0 => none_path
  | n + 1 => ok_wpath1 F B W I GW GI (ok_wpath F B W I GW GI n)
theorem ok_check (F : Df K mg "check_value" sChk ["value"] f fd) (W : Df K mg "wrong_path" sWPath ["value", "path"] fp fpd) (G : FnOk P w K mg base CX0 3 fp fpd ["value", "path"] (spWPath K 2)) :
    FnOk P w K mg base CX0 4 f fd ["value"] spChk := by
  refine F.fn.ok scChk (fun vs H Q E h => ?_) (fun cdv A outer s H vs Q E hr h => ?_)
  · obtain ⟨v, d, rfl, _⟩ := h
    rfl
  · obtain ⟨v, d, rfl, hd, hg, q⟩ := h
    refine ⟨_, pss_cons (ps_set (i := 1) scChk.nd rfl (Or.inl rfl) (pe_call G hr rfl W.m W.fn.kp W.b .nil pass0 (pa_cons (pv 0) (pa_cons (pe_tup pa_nil) pa_nil))))
      (pss_one (ps_if (pt_cmpR op_notN (pv 1) pe_non (nomark _)) (pss_one ps_never) pss_nil)), ?_⟩
    refine ⟨_, rfl, l0_line, fun p hp => ?_⟩
    refine ⟨1, v, d, p, [], rfl, rfl, hd.mono (rdS_of (same_upd hp)), hg, SqT.of upd_same, by decide, fun H1 s1 => ?_⟩
    exact ⟨_, rfl, rfl, _, rfl, iteF (q _ ((same_upd hp).trans s1))⟩
theorem ok_isv (F : Df K mg "is_value" sIsV ["value"] f fd) (W : Df K mg "wrong_path" sWPath ["value", "path"] fp fpd) (G : FnOk P w K mg base CX0 3 fp fpd ["value", "path"] (spWPath K 2)) :
    FnOk P w K mg base CX0 4 f fd ["value"] spIsV := by
  refine F.fn.ok scIsV (fun vs H Q E h => ?_) (fun cdv A outer s H vs Q E hr h => ?_)
  · obtain ⟨v, d, rfl, _⟩ := h
    rfl
  · obtain ⟨v, d, rfl, hd, hg, q⟩ := h
    refine ⟨_, pss_one (ps_ret (pe_cmpR op_isN (pe_call G hr rfl W.m W.fn.kp W.b .nil pass0 (pa_cons (pv 0) (pa_cons (pe_tup pa_nil) pa_nil))) pe_non (nomark _))), ?_⟩
    refine ⟨_, rfl, l0_line, fun p hp => ?_⟩
    refine ⟨1, v, d, p, [], rfl, rfl, hd.mono (rdS_of (same_upd hp)), hg, SqT.of upd_same, by decide, fun H1 s1 => ?_⟩
    exact ⟨rfl, q _ ((same_upd hp).trans s1)⟩
end
end Mw

end

section
set_option Elab.async false
set_option linter.all false
set_option maxRecDepth 100000
set_option maxHeartbeats 4000000
/-! rebuilt, copied. -/
namespace Mw
open PySem PySem.Spec PyProof.Rows L2
theorem gen_tup {K : PySem.W.Frag} {a : Addr} {xs : List V} : Gen (Itt K a) xs.length (fun i x => xs[i]? = some x) (fun H => SqT K H a xs) where
  go := fun i H h hi => ⟨xs, xs[i], h, by simp [hi]⟩
  yld := fun i H x H' h hi y => ⟨y.1, y.2 xs h⟩
  stop := fun H h => ⟨xs, h, Nat.le_refl _⟩
theorem RdS.fr {H G G' : Hp} (s : RdS G G') : RdS (fr H G) (fr H G') where
  rd := fun a u n h => by
    by_cases hb : H a = none
    · have h' : Rd G a u := h.imp (fun h => by rw [fr_new hb] at h; exact h) fun ⟨o, h⟩ => ⟨o, by rw [fr_new hb] at h; exact h⟩
      rcases s.rd a u n h' with h2 | ⟨o, h2⟩
      · exact .inl (by rw [fr_new hb]; exact h2)
      · exact .inr ⟨o, by rw [fr_new hb]; exact h2⟩
    · obtain ⟨o, ho⟩ := Option.ne_none_iff_exists'.mp hb
      rcases h with h | ⟨o2, h⟩ <;> rw [fr_old ho] at h <;> cases h
  lst := fun a xs h => by
    by_cases hb : H a = none
    · rw [fr_new hb] at h ⊢; exact s.lst a xs h
    · obtain ⟨o, ho⟩ := Option.ne_none_iff_exists'.mp hb
      rw [fr_old ho] at h; cases h
  tup := fun a xs h => by
    by_cases hb : H a = none
    · rw [fr_new hb] at h ⊢; exact s.tup a xs h
    · obtain ⟨o, ho⟩ := Option.ne_none_iff_exists'.mp hb
      rw [fr_old ho] at h; cases h
/-- the key of turn i -/
def keyAt (ks : List (Key × V)) (i : Nat) : Key := ((ks[i]?).map (·.1)).getD (.inl 0)
theorem keyAt_eq {ks : List (Key × V)} {i : Nat} {k : Key} {v : V} (h : ks[i]? = some (k, v)) : keyAt ks i = k := by
  unfold keyAt
  rw [h]
  rfl
theorem keyAt_apart {ks : List (Key × V)} (nd : (ks.map (·.1)).Nodup) (i j : Nat) (hi : i < ks.length) (hj : j < ks.length) (e : keyAt ks i = keyAt ks j) : i = j := by
  have ei := keyAt_eq (ks := ks) (i := i) (k := (ks[i]).1) (v := (ks[i]).2) (by rw [List.getElem?_eq_getElem hi])
  have ej := keyAt_eq (ks := ks) (i := j) (k := (ks[j]).1) (v := (ks[j]).2) (by rw [List.getElem?_eq_getElem hj])
  rw [ei, ej] at e
  have h := List.pairwise_iff_getElem.mp nd
  rcases Nat.lt_trichotomy i j with z | z | z
  · exact absurd (by rw [List.getElem_map, List.getElem_map]; exact e) (h i j (by simpa using hi) (by simpa using hj) z)
  · exact z
  · exact absurd (by rw [List.getElem_map, List.getElem_map]; exact e.symm) (h j i (by simpa using hj) (by simpa using hi) z)
/-- what is used in G is used in H -/
abbrev Dm (H G : Hp) : Prop := ∀ b, G b = none → H b = none
theorem dm_same {H G : Hp} (s : Same H G) : Dm H G := fun b h => s.free h
theorem Dm.trans {H G I : Hp} (a : Dm H G) (b : Dm G I) : Dm H I := fun c h => a c (b c h)
theorem dm_off {H H1 : Hp} {d : Addr} {o : HO} (h : H1 d = some o) (off : ∀ b, b ≠ d → H1 b = H b) : Dm H H1 := fun b hb => by
  rw [← off b (fun z => by rw [z, h] at hb; cases hb)]
  exact hb
theorem fr_dm {H H2 H3 : Hp} {D : Addr} {o : HO} (dm : Dm H H2) (h : H2 D = some o) : Same (fr H2 H3) (fr H (hid D H3)) := fun b u e => by
  by_cases hb : H2 b = none
  · rw [fr_new hb] at e
    rw [fr_new (dm b hb), hid_ne (fun z => by rw [z, h] at hb; cases hb)]
    exact e
  · obtain ⟨o, ho⟩ := Option.ne_none_iff_exists'.mp hb
    rw [fr_old ho] at e; cases e
theorem isD_list {H : Hp} {n : Nat} {v : V} {d : PyData} (hd : IsD H n v d) (hli : isLi d = true) : ∃ (m : Nat) (p : Addr) (vs : List V) (xs : List PyData), n = m + 1 ∧ v = .ref p ∧ d = .list xs ∧ H p = some (.lst vs) ∧ Paired (IsD H m) vs xs := by
  have flat : atV d = some v → False := fun h => by cases d <;> simp [isLi, atV] at hli h
  cases n with
  | zero => exact (flat hd).elim
  | succ n =>
    rcases hd with h | ⟨p, vs, xs, e1, e2, hr', hp⟩ | ⟨p, vs, xs, e1, e2, hr', hp⟩ | ⟨p, ks, ds, e1, e2, hr', hp⟩
    · exact (flat h).elim
    · exact ⟨n, p, vs, xs, rfl, e1, e2, hr', hp⟩
    · subst e2; cases hli
    · subst e2; cases hli
theorem isD_tup {H : Hp} {n : Nat} {v : V} {d : PyData} (hd : IsD H n v d) (hli : isTu d = true) : ∃ (m : Nat) (p : Addr) (vs : List V) (xs : List PyData), n = m + 1 ∧ v = .ref p ∧ d = .tuple xs ∧ H p = some (.tup vs) ∧ Paired (IsD H m) vs xs := by
  have flat : atV d = some v → False := fun h => by cases d <;> simp [isTu, atV] at hli h
  cases n with
  | zero => exact (flat hd).elim
  | succ n =>
    rcases hd with h | ⟨p, vs, xs, e1, e2, hr', hp⟩ | ⟨p, vs, xs, e1, e2, hr', hp⟩ | ⟨p, ks, ds, e1, e2, hr', hp⟩
    · exact (flat h).elim
    · subst e2; cases hli
    · exact ⟨n, p, vs, xs, rfl, e1, e2, hr', hp⟩
    · subst e2; cases hli
/-- all turns' data -/
theorem out_isD {H0 G : Hp} {m : Nat} {xs : List PyData} {n : Nat} {acc : List V} (hn : xs.length = n) (h : Out (fun i G y => ∀ x, xs[i]? = some x → IsD (fr H0 G) m y x) (fun _ => true) n G acc) : Paired (IsD (fr H0 G) m) acc xs := by
  obtain ⟨hl, ha⟩ := out_all h
  exact paired_ix2 (by omega) fun i y x e1 e2 => ha i y e1 x e2
abbrev sReb : Stmt := top 17
theorem scReb : FnScope ["value", "key", "item"] ["value"] (defScope sReb) := ⟨rfl, rfl, rfl, by decide +kernel, rfl, by decide +kernel, by decide +kernel⟩
def spReb (n : Nat) : Sp := fun vs H Q _ => ∃ (m : Nat) (v : V) (d : PyData), n = m + 1 ∧ vs = [v] ∧ IsD H m v d ∧ gd m d ∧ ∀ H' v', Same H H' → IsD (fr H H') m v' d → Q v' H'
abbrev sCop : Stmt := top 18
theorem scCop : FnScope ["value"] ["value"] (defScope sCop) := ⟨rfl, rfl, rfl, by decide +kernel, rfl, by decide +kernel, by decide +kernel⟩
def spCop : Sp := fun vs H Q _ => ∃ (v : V) (d : PyData), vs = [v] ∧ IsD H 1 v d ∧ gd 1 d ∧ ∀ H' v', Same H H' → IsD (fr H H') 1 v' d → Q v' H'
section
variable {P : Program} {w : World} {K : PySem.W.Frag} {mg : Str → Option Value} {base : Heap} {f fc fr' : Addr} {fd fcd frd : FuncData}
theorem none_reb {k : Nat} : FnOk P w K mg base CX0 k f fd ["value"] (spReb 0) := by
  have no : ∀ vs H Q E, ¬ spReb 0 vs H Q E := fun vs H Q E h => by
    obtain ⟨m, v, d, e, _⟩ := h
    omega
  exact ⟨fun vs H Q E h => absurd h (no vs H Q E), fun A outer s H args us vs Q E _ _ _ _ h => absurd h (no vs H Q E)⟩
theorem ok_reb1 {n : Nat} (F : Df K mg "rebuilt" sReb ["value"] f fd) (B : Bi mg) (G : FnOk P w K mg base CX0 (n + 1) f fd ["value"] (spReb n)) :
    FnOk P w K mg base CX0 (n + 2) f fd ["value"] (spReb (n + 1)) := by
  refine F.fn.ok scReb (fun vs H Q E h => ?_) (fun cdv A outer s H vs Q E hr h => ?_)
  · obtain ⟨m, v, d, _, rfl, _⟩ := h
    rfl
  · obtain ⟨m, v, d, e, rfl, hd, hg, q⟩ := h
    obtain rfl : n = m := by omega
    have hu := hu_of hr
    refine ⟨_, pss_cons (ps_if (pt_val (pe_callB call_isi (by rfl) B.isinstance boot_isinstance (pa_cons (pv 0) (pa_cons (pe_bltn (v := .ty "dict") (by rfl) B.dict boot_dict rfl) pa_nil))))
        (pss_one (ps_ret (pe_lockR (pe_dc (own := [("key", 1)]) (g := gName 1) (tt := tYes) rfl scReb.nd (pi_keys (pv 0)) (blkOk_by (N := ["value", "key", "item"]) (sc := defScope sReb) (by decide +kernel))
          (fun _ _ _ _ _ => pg_name (i := 1) scReb.nd rfl (Or.inl rfl)) (fun _ _ _ _ _ => pts_nil) (fun _ _ _ _ _ => pv 1)
          (fun _ _ _ _ _ => pe_call G hr rfl F.m F.fn.kp F.b .nil pass0 (pa_cons (pe_dget hu (pv 0) (pv 1) (fun _ _ => rfl)) pa_nil)))))) pss_nil)
      (pss_cons (ps_if (pt_val (pe_callB call_isi (by rfl) B.isinstance boot_isinstance (pa_cons (pv 0) (pa_cons (pe_bltn (v := .ty "list") (by rfl) B.list boot_list rfl) pa_nil))))
        (pss_one (ps_ret (pe_lc (own := [("item", 2)]) (g := gName 2) (tt := tYes) rfl scReb.nd (pi_list (pv 0)) (blkOk_by (N := ["value", "key", "item"]) (sc := defScope sReb) (by decide +kernel))
          (fun _ _ _ _ _ => pg_name (i := 2) scReb.nd rfl (Or.inl rfl)) (fun _ _ _ _ _ => pts_nil)
          (fun _ _ _ _ _ => pe_call G hr rfl F.m F.fn.kp F.b .nil pass0 (pa_cons (pv 2) pa_nil))))) pss_nil)
      (pss_one (ps_ret (pe_ifExp (pt_val (pe_callB call_isi (by rfl) B.isinstance boot_isinstance (pa_cons (pv 0) (pa_cons (pe_bltn (v := .ty "tuple") (by rfl) B.tuple boot_tuple rfl) pa_nil))))
        (pe_callTy call_tuple_of (by rfl) B.tuple (by decide +kernel) (pa_cons (pe_lc (own := [("item", 2)]) (g := gName 2) (tt := tYes) rfl scReb.nd (pi_tup (pv 0)) (blkOk_by (N := ["value", "key", "item"]) (sc := defScope sReb) (by decide +kernel))
          (fun _ _ _ _ _ => pg_name (i := 2) scReb.nd rfl (Or.inl rfl)) (fun _ _ _ _ _ => pts_nil)
          (fun _ _ _ _ _ => pe_call G hr rfl F.m F.fn.kp F.b .nil pass0 (pa_cons (pv 2) pa_nil))) pa_nil)) (pv 0))))), ?_⟩
    refine ⟨_, rfl, _, _, _, _, _, rfl, .ty "dict", tyX_of hd, kit_ty (kDi d), _, rfl, ?_⟩
    cases hdi : isDi d with
    | true =>
      obtain ⟨m, p, ks, ds, rfl, rfl, rfl, hrd, hkv⟩ := isD_dict hd hdi
      refine iteT ⟨p, ks, hrd, fun od H1 h1 rs off => ?_⟩
      have hlen : ks.length = ds.length := Paired.length hkv
      have hl' : ds.length ≤ 40 := by simpa using hg.1
      have nd := hkv.nodup (gd_keys hg)
      have ndm := gd_keys hg
      refine ⟨_, rfl, p, od, rfl, .inl ⟨ks, h1, fun D hD => dc_gen (tk := tVar 1) gen_keys hD (fun H s' => s' _ _ h1)
        (fun i G y => ∀ x, ds[i]? = some x → IsD (fr H G) m y x.2) (fun _ => true) (fun i G G' y s' e x hx => (e x hx).mono s'.fr) (by omega) (keyAt ks) (keyAt_apart nd) ?_ ?_⟩⟩
      · rintro i x H2 acc Nx hi ⟨k, u, e1, rfl⟩ s2 hacc _ nx
        refine ⟨rfl, ifT (B := Nx H2) rfl ?_⟩
        obtain ⟨j, y, e2, rfl, hu'⟩ := hkv.get e1
        have hd2 : Rd H2 p (.dK ks) := .inr ⟨od, s2 _ _ h1⟩
        have hgy : gd m y := (hg.2.1 (.str j, y) (List.mem_map_of_mem (f := fun q => ((.str q.1, q.2) : PyData × PyData)) (List.mem_of_getElem? e2))).2
        refine ⟨_, rfl, _, rfl, _, rfl, p, u, rfl, .inl ⟨ks, .inr j, hd2, rfl, (valV_get nd e1).symm⟩, ?_⟩
        refine ⟨m, u, y, rfl, rfl, hu'.mono (rs.trans (rdS_of s2)), hgy, fun H3 v' s3 hv' => ?_⟩
        obtain ⟨kvs, k, ek, hD3, hlk, hN⟩ := nx v' H3 s3 rfl (fun x hx => by
          rw [e2] at hx; cases hx
          exact hv'.mono (rdS_of (fr_dm ((dm_off h1 off).trans (dm_same s2)) hacc)))
        rw [keyAt_eq e1] at ek
        exact ⟨kvs, k, ek, hD3, hlk, hN⟩
      · intro H2 kvs s2 hD2 out
        refine ⟨s2 _ _ h1, fun H3 sb rs2 off2 => ?_⟩
        have hDn : H D = none := dm_off h1 off D hD
        refine q H3 _ (sb s2) (.inr (.inr (.inr ⟨D, kvs, ds, rfl, rfl, ?_, ?_⟩)))
        · have := rs2.rd D (.dK kvs) rfl (.inl hD2)
          rcases this with h | ⟨o, h⟩
          · exact .inl (by rw [fr_new hDn]; exact h)
          · exact .inr ⟨o, by rw [fr_new hDn]; exact h⟩
        · rw [kp_all] at out
          have hlk := Paired.length out
          rw [List.length_range] at hlk
          refine paired_ix2 (by omega) fun i a b e1 e2 => ?_
          have hi : i < ks.length := by have := (List.getElem?_eq_some_iff.mp e1).1; omega
          have er : (List.range ks.length)[i]? = some i := by rw [List.getElem?_range hi]
          obtain ⟨z, ez, r1, r2⟩ := paired_get out er
          rw [e1] at ez; cases ez
          refine ⟨?_, (r2 b e2).mono (RdS.trans (rdS_of hid_sub) rs2).fr⟩
          obtain ⟨k, u, e3⟩ : ∃ k u, ks[i]? = some (k, u) := ⟨(ks[i]'hi).1, (ks[i]'hi).2, by rw [List.getElem?_eq_getElem hi]⟩
          obtain ⟨j, y, e4, rfl, _⟩ := hkv.get e3
          rw [e2] at e4; cases e4
          rw [r1, keyAt_eq e3]
    | false =>
    refine iteF ⟨_, rfl, _, _, _, _, _, rfl, .ty "list", tyX_of hd, kit_ty (kLi d), _, rfl, ?_⟩
    cases hli : isLi d with
    | true =>
      obtain ⟨m, p, vs, xs, rfl, rfl, rfl, hp, hps⟩ := isD_list hd hli
      have hlen := Paired.length hps
      have hl' : xs.length ≤ 40 := hg.1
      refine iteT ⟨_, rfl, p, rfl, ⟨_, SqL.of hp⟩, fun D hD => lc_gen (gen_list (xs := vs)) hD (fun H s' => SqL.of (s' _ _ hp))
        (fun i G y => ∀ x, xs[i]? = some x → IsD (fr H G) m y x) (fun _ => true) (fun i G G' y s' e x hx => (e x hx).mono s'.fr) (by omega) ?_ ?_⟩
      · rintro i x H2 acc Nx hi e1 s2 hacc _ nx
        obtain ⟨y, e2, hy⟩ := paired_get hps e1
        refine ⟨rfl, ifT (B := Nx H2) rfl ⟨_, rfl, m, x, y, rfl, rfl, hy.mono (rdS_of s2), hg.2 y (List.mem_of_getElem? e2), fun H3 v' s3 hv' => ?_⟩⟩
        exact nx v' H3 s3 rfl fun x hx => by
          rw [e2] at hx; cases hx
          exact hv'.mono (rdS_of (fr_dm (dm_same s2) hacc))
      · intro H2 acc s2 hD2 out
        refine q H2 _ s2 (.inr (.inl ⟨D, acc, xs, rfl, rfl, by rw [fr_new hD]; exact hD2, ?_⟩))
        exact Paired.mapP (out_isD (by omega) out) fun a b h => h.mono (rdS_of hid_sub).fr
    | false =>
    refine iteF ⟨_, rfl, _, _, _, _, _, rfl, .ty "tuple", tyX_of hd, kit_ty (kTu d), _, rfl, ?_⟩
    cases htu : isTu d with
    | true =>
      obtain ⟨m, p, vs, xs, rfl, rfl, rfl, hp, hps⟩ := isD_tup hd htu
      have hlen := Paired.length hps
      have hl' : xs.length ≤ 40 := hg.1
      refine iteT ⟨_, rfl, p, rfl, ⟨_, SqT.of hp⟩, fun D hD => lc_gen (gen_tup (xs := vs)) hD (fun H s' => SqT.of (s' _ _ hp))
        (fun i G y => ∀ x, xs[i]? = some x → IsD (fr H G) m y x) (fun _ => true) (fun i G G' y s' e x hx => (e x hx).mono s'.fr) (by omega) ?_ ?_⟩
      · rintro i x H2 acc Nx hi e1 s2 hacc _ nx
        obtain ⟨y, e2, hy⟩ := paired_get hps e1
        refine ⟨rfl, ifT (B := Nx H2) rfl ⟨_, rfl, m, x, y, rfl, rfl, hy.mono (rdS_of s2), hg.2 y (List.mem_of_getElem? e2), fun H3 v' s3 hv' => ?_⟩⟩
        exact nx v' H3 s3 rfl fun x hx => by
          rw [e2] at hx; cases hx
          exact hv'.mono (rdS_of (fr_dm (dm_same s2) hacc))
      · intro H2 acc s2 hD2 out
        refine ⟨D, acc, rfl, .inl ⟨SqL.of hD2, fun t ht => ?_⟩⟩
        have s3 : Same H2 (upd H2 t (.tup acc)) := same_upd ht
        refine q _ _ (s2.trans s3) (.inr (.inr (.inl ⟨t, acc, xs, rfl, rfl, by rw [fr_new (s2.free ht), upd_same], ?_⟩)))
        exact Paired.mapP (out_isD (by omega) out) fun a b h => h.mono (RdS.trans (rdS_of hid_sub) (rdS_of s3)).fr
    | false =>
    have hf : atV d = some v := by
      cases d with
      | list _ => cases hli
      | tuple _ => cases htu
      | dict _ => cases hdi
      | none => rw [isD_flat hd (u := .non) rfl]; rfl
      | bool b => rw [isD_flat hd (u := .bl b) rfl]; rfl
      | int b => rw [isD_flat hd (u := .int b) rfl]; rfl
      | str b => rw [isD_flat hd (u := .str b) rfl]; rfl
    exact iteF ⟨_, rfl, q H v (fun _ _ z => z) (IsD.flat hf)⟩
theorem ok_reb (F : Df K mg "rebuilt" sReb ["value"] f fd) (B : Bi mg) : ∀ n, FnOk P w K mg base CX0 (n + 1) f fd ["value"] (spReb n)
  | 0 => none_reb
  | n + 1 => ok_reb1 F B (ok_reb F B n)
theorem ok_cop (F : Df K mg "copied" sCop ["value"] f fd) (C : Df K mg "check_value" sChk ["value"] fc fcd) (R : Df K mg "rebuilt" sReb ["value"] fr' frd)
    (GC : FnOk P w K mg base CX0 4 fc fcd ["value"] spChk) (GR : FnOk P w K mg base CX0 3 fr' frd ["value"] (spReb 2)) : FnOk P w K mg base CX0 5 f fd ["value"] spCop := by
  refine F.fn.ok scCop (fun vs H Q E h => ?_) (fun cdv A outer s H vs Q E hr h => ?_)
  · obtain ⟨v, d, rfl, _⟩ := h
    rfl
  · obtain ⟨v, d, rfl, hd, hg, q⟩ := h
    refine ⟨_, pss_cons (ps_expr (pe_call GC hr rfl C.m C.fn.kp C.b .nil pass0 (pa_cons (pv 0) pa_nil)))
      (pss_one (ps_ret (pe_call GR (hr.mono (by decide)) rfl R.m R.fn.kp R.b .nil pass0 (pa_cons (pv 0) pa_nil)))), ?_⟩
    refine ⟨_, rfl, v, d, rfl, hd, hg, fun H1 s1 => ?_⟩
    refine ⟨_, rfl, 1, v, d, rfl, rfl, hd.mono (rdS_of s1), hg, fun H2 v' s2 hv => ?_⟩
    exact q _ _ (s1.trans s2) (hv.mono (rdS_of (fr_back s1)))
end
end Mw

end

section
set_option Elab.async false
set_option linter.all false
set_option maxRecDepth 100000
set_option maxHeartbeats 4000000
/-! string_notation. -/
namespace Mw
open PySem PySem.Spec PyProof.Rows L2
abbrev rKd (K : PySem.W.Frag) (d : Addr) : R2 := fun x y H Q => ∃ (z : Str) (u0 : Value) (v0 : V), x = .ref d ∧ y = .str z ∧ PySem.W.nsIn K d z = some (some u0) ∧ RelV v0 u0 ∧ Q v0 H
theorem pe_kdget {X : Cx} {K : PySem.W.Frag} {d : Addr} {es : Array DictEntry} {n : Nat} {o i : Expr} {td ty : TE} {pos : Pos} (e : X.K = K) (D : KDict K X.w d es n) (ho : PE X o td) (hi : PE X i ty) (hs : NoSl i) : PE X (.Subscript o i pos) (tOp (rKd K d) td ty) := by
  subst e
  refine ⟨fun pins s σ H Q I h => ?_⟩
  refine subD_of PySem.F.slot_dict_getitem.lookup hs (thn (ho.run pins s σ H _ I h) fun u s1 ⟨x, H1, I1, rx, q1⟩ => thn (hi.run pins s1 σ H1 _ I1 q1) fun iv s2 ⟨y, H2, I2, ry, q2⟩ => ?_)
  obtain ⟨z, u0, v0, ex, ey, hn, r, q⟩ := q2
  subst ex
  obtain rfl : u = Value.ref d := rx
  exact ⟨kd_type D I2, op_item_kd D pins s2 σ H2 (.ref d) y _ _ Q I2 rfl ry ⟨z, u0, v0, rfl, ey, hn, r, q⟩⟩
theorem op_in_kdK {X : Cx} {K : PySem.W.Frag} {d : Addr} {es : Array DictEntry} {n : Nat} (e : X.K = K) (D : KDict K X.w d es n) : OpR X (compareOp .In) (fun x y H Q => ∃ (z : Str) (r : Option Value), x = .str z ∧ y = .ref d ∧ PySem.W.nsIn K d z = some r ∧ Q (.bl r.isSome) H) := by
  subst e
  exact op_in_kd D
/-- the escapes -/
structure Esc (K : PySem.W.Frag) (w : World) (mg : Str → Option Value) (d : Addr) (es : Array DictEntry) (n : Nat) : Prop where
  m : mg "ESCAPES" = some (.ref d)
  kd : KDict K w d es n
  look : ∀ c ∈ signs, (eN c = [c] ∧ PySem.W.nsIn K d ⟨#[c]⟩ = some none) ∨ ∃ z t, PySem.W.nsIn K d ⟨#[c]⟩ = some (some (.str z t)) ∧ cs z = eN c
theorem str_of_cs {a : Str} {l : List Nat} (h : cs a = l) : a = ⟨l.toArray⟩ := by
  subst h
  show a = ⟨a.cps.toList.toArray⟩
  rw [Array.toArray_toList]
theorem cs_joinE (ys : List Str) : cs (Txt.join "" ys) = (ys.map cs).flatten := by
  rw [show Txt.join "" ys = Str.join "" ys from TL.join_eq "" ys]
  induction ys with
  | nil => rfl
  | cons y r ih =>
    cases r with
    | nil => show cs y = cs y ++ []; rw [List.append_nil]
    | cons z r =>
      rw [show Str.join "" (y :: z :: r) = y ++ ("" : Str) ++ Str.join "" (z :: r) from rfl, cs_app, cs_app, ih]
      rw [show cs ("" : Str) = [] from by decide +kernel, List.append_nil]
      rfl
theorem texts_of {e : Nat → List Nat} : ∀ {l : List V} {m : List Nat}, l.length = m.length → (∀ (i : Nat) (y : V), l[i]? = some y → ∀ c, m[i]? = some c → ∃ z, y = V.str z ∧ cs z = e c) → ∃ ys : List Str, l = ys.map V.str ∧ ys.map cs = m.map e
  | [], [], _, _ => ⟨[], rfl, rfl⟩
  | [], _ :: _, hl, _ => by cases hl
  | _ :: _, [], hl, _ => by cases hl
  | y :: l, c :: m, hl, h => by
    obtain ⟨z, rfl, hz⟩ := h 0 y rfl c rfl
    obtain ⟨ys, rfl, hys⟩ := texts_of (l := l) (m := m) (by simpa using hl) fun i y e c e2 => h (i + 1) y (by simpa using e) c (by simpa using e2)
    exact ⟨z :: ys, rfl, by rw [List.map_cons, List.map_cons, hz, hys]⟩
abbrev sSN : Stmt := top 21
theorem scSN : FnScope ["text", "sign"] ["text"] (defScope sSN) := ⟨rfl, rfl, rfl, by decide +kernel, rfl, by decide +kernel, by decide +kernel⟩
def noteS (x : Str) : Str := ⟨(qN x).toArray⟩
def spSN : Sp := fun vs H Q _ => ∃ (x : Str), vs = [.str x] ∧ okS x ∧ x.length ≤ 5 ∧ ∀ H', Same H H' → Q (.str (noteS x)) H'
section
variable {P : Program} {w : World} {K : PySem.W.Frag} {mg : Str → Option Value} {base : Heap} {f fc fr' : Addr} {fd fcd frd : FuncData} {d : Addr} {es : Array DictEntry} {n : Nat}
theorem ok_sn (F : Df K mg "string_notation" sSN ["text"] f fd) (E : Esc K w mg d es n) : FnOk P w K mg base CX0 1 f fd ["text"] spSN := by
  refine F.fn.ok scSN (fun vs H Q E h => ?_) (fun cdv A outer s H vs Q E' hr h => ?_)
  · obtain ⟨x, rfl, _⟩ := h
    rfl
  · obtain ⟨x, rfl, hx, hl, q⟩ := h
    refine ⟨_, pss_one (ps_ret (pe_op op_add_str (pe_op op_add_str pe_str (pe_join pe_str (pe_lc (own := [("sign", 1)]) (g := gName 1) (tt := tYes) rfl scSN.nd (pi_str (pv 0)) (blkOk_by (N := ["text", "sign"]) (sc := defScope sSN) (by decide +kernel))
          (fun _ _ _ _ _ => pg_name (i := 1) scSN.nd rfl (Or.inl rfl)) (fun _ _ _ _ _ => pts_nil)
          (fun _ _ _ _ _ => pe_ifExp (pt_cmpR (op_in_kdK (K := K) rfl E.kd) (pv 1) (pe_glob (v := .ref d) (by rfl) E.m rfl) (by rfl)) (pe_kdget (K := K) rfl E.kd (pe_glob (v := .ref d) (by rfl) E.m rfl) (pv 1) (fun _ _ => rfl)) (pv 1))))) pe_str)), ?_⟩
    have hlx : (cs x).length = x.length := Array.length_toList
    refine ⟨⟨_, rfl⟩, _, rfl, x, rfl, fun D hD => lc_gen (gen_str (x := x)) hD (fun _ _ => trivial)
      (fun i G y => ∀ c, (cs x)[i]? = some c → ∃ z, y = .str z ∧ cs z = eN c) (fun _ => true) (fun i G G' y s' e => e) (by have : x.cps.size = x.length := rfl; omega) ?_ ?_⟩
    · rintro i y H2 acc Nx hi ⟨c, e1, rfl⟩ s2 hacc _ nx
      refine ⟨rfl, ifT (B := Nx H2) rfl ⟨_, rfl, ?_⟩⟩
      have e2 : (cs x)[i]? = some c := by rw [← e1, Array.getElem?_toList]
      have hc : c ∈ signs := hx c (List.mem_of_getElem? e2)
      rcases E.look c hc with ⟨h1, h2⟩ | ⟨z, t, h1, h2⟩
      · refine ⟨_, _, rfl, rfl, h2, _, rfl, iteF ⟨_, rfl, ?_⟩⟩
        refine nx _ H2 (fun _ _ z => z) rfl fun c' hc' => ?_
        rw [e2] at hc'; cases hc'
        exact ⟨_, rfl, by rw [h1]⟩
      · refine ⟨_, _, rfl, rfl, h1, _, rfl, iteT ⟨_, rfl, _, _, .str z, rfl, rfl, h1, ⟨t, rfl⟩, ?_⟩⟩
        refine nx _ H2 (fun _ _ z => z) rfl fun c' hc' => ?_
        rw [e2] at hc'; cases hc'
        exact ⟨_, rfl, h2⟩
    · intro H2 acc s2 hD2 out
      obtain ⟨hal, hag⟩ := out_all out
      have hsz : x.cps.size = x.length := rfl
      obtain ⟨ys, rfl, hys⟩ : ∃ ys : List Str, acc = ys.map V.str ∧ ys.map cs = (cs x).map eN := by
        exact texts_of (by omega) hag
      have hj : cs (Txt.join "" ys) = (cs x).flatMap eN := by rw [cs_joinE, hys, List.flatMap_def]
      have hq := qN_len x hl
      have hqd : qN x = 34 :: ((cs x).flatMap eN ++ [34]) := rfl
      have hjl : (Txt.join "" ys).length + 2 = (qN x).length := by
        rw [hqd, ← hj, List.length_cons, List.length_append]
        have : (cs (Txt.join "" ys)).length = (Txt.join "" ys).length := Array.length_toList
        simp only [List.length_singleton]
        omega
      have hsum : (ys.map (·.length)).sum = (Txt.join "" ys).length := by
        have : (cs (Txt.join "" ys)).length = (Txt.join "" ys).length := Array.length_toList
        rw [← this, cs_joinE, List.length_flatten, List.map_map]
        congr 1
      refine ⟨_, D, ys, rfl, rfl, .inl (SqL.of hD2), ?_, _, _, rfl, rfl, ?_, _, _, rfl, rfl, ?_, ?_⟩
      · rw [hsum, show ("" : Str).length = 0 from by decide +kernel]; omega
      · rw [show ("\"" : Str).length = 1 from by decide +kernel]; exact le_line (by omega)
      · rw [show (("\"" : Str) ++ Txt.join "" ys).length = 1 + (Txt.join "" ys).length from by
          rw [← show (cs (("\"" : Str) ++ Txt.join "" ys)).length = (("\"" : Str) ++ Txt.join "" ys).length from Array.length_toList, cs_app, List.length_append]
          rw [show (cs ("\"" : Str)).length = 1 from by decide +kernel]
          rfl]
        rw [show ("\"" : Str).length = 1 from by decide +kernel]; exact le_line (by omega)
      · have e : ("\"" : Str) ++ Txt.join "" ys ++ ("\"" : Str) = noteS x := by
          refine str_of_cs ?_
          rw [cs_app, cs_app, hj, show cs ("\"" : Str) = [34] from by decide +kernel]
          rfl
        have q2 := q H2 s2
        rw [← e] at q2
        exact q2
end
end Mw

end

section
set_option Elab.async false
set_option linter.all false
set_option maxRecDepth 100000
set_option maxHeartbeats 4000000
/-! value_notation. -/
namespace Mw
open PySem PySem.Spec PyProof.Rows L2
theorem len_cs (a : Str) : a.length = (cs a).length := Array.length_toList.symm
theorem jn_sum : ∀ ts : List (List Nat), (ts.map (·.length)).sum + ts.length * 2 ≤ (jn ts).length + 2
  | [] => Nat.zero_le _
  | x :: r => by
    have key : ∀ l : List (List Nat), (l.map (·.length)).sum + l.length * 2 = (l.flatMap fun y => 44 :: 32 :: y).length := by
      intro l
      induction l with
      | nil => rfl
      | cons y l ih =>
        rw [List.flatMap_cons, List.length_append, List.map_cons, List.sum_cons, ← ih]
        simp only [List.length_cons]
        omega
    have h := key r
    show _ ≤ (x ++ _).length + 2
    rw [List.length_append, List.map_cons, List.sum_cons, ← h]
    simp only [List.length_cons]
    omega
theorem cs_joinC (ys : List Str) : cs (Txt.join ", " ys) = jn (ys.map cs) := by
  rw [show Txt.join ", " ys = Str.join ", " ys from TL.join_eq ", " ys]
  exact cs_join ys
theorem call_strF {X : Cx} : CallR X (.type "str") (fun xs H Q => ∃ (v : V) (d : PyData), xs = [v] ∧ atV d = some v ∧ isStr d = false ∧ (∀ i, d = .int i → i.natAbs < 10 ^ 18) ∧ Q (.str (note d)) H) := by
  intro pins s σ H xs us Q I r h
  obtain ⟨v, d, rfl, hd, hs, hi, q⟩ := h
  obtain ⟨u, rfl, ru⟩ := vals1 r
  cases d with
  | none =>
    obtain rfl := Option.some.inj hd
    cases ru
    have e : note .none = "None" := by decide +kernel
    rw [e] at q
    exact PySem.P.str_of_none ⟨.str "None", H, I.tok _, ⟨_, rfl⟩, q⟩
  | bool b =>
    obtain rfl := Option.some.inj hd
    cases ru
    have e : note (.bool b) = (if b then "True" else "False" : String) := by cases b <;> decide +kernel
    rw [e] at q
    exact PySem.P.str_of_bool ⟨.str _, H, I.tok _, ⟨_, rfl⟩, by cases b <;> exact q⟩
  | int i =>
    obtain rfl := Option.some.inj hd
    obtain ⟨t, rfl⟩ := ru
    have e : note (.int i) = (toString i : String) := by
      refine (str_of_cs ?_).symm
      simp only [txt]
    rw [e] at q
    have h1 := log60 (hi i rfl)
    exact PySem.P.str_of_int (by omega) ⟨.str _, H, I.tok _, ⟨_, rfl⟩, q⟩
  | str _ => cases hs
  | list _ => cases hd
  | tuple _ => cases hd
  | dict _ => cases hd

theorem bnd2 : ∀ {m : Nat}, m ≤ 2 → bnd m ≤ 211210
  | 0, _ => by decide
  | 1, _ => by decide
  | 2, _ => by decide
  | n + 3, h => by omega
theorem note_len {m : Nat} (hm : m ≤ 2) {d : PyData} (h : gd m d) : (note d).length ≤ 211210 := by
  rw [len_cs, cs_note]
  exact Nat.le_trans (txt_len (fun x hx => qN_len x hx) m d h) (bnd2 hm)
theorem len_app (a b : Str) : (a ++ b).length = a.length + b.length := by rw [len_cs, cs_app, List.length_append, ← len_cs, ← len_cs]
theorem len1 {a : Str} (h : (cs a).length = 1) : a.length = 1 := by rw [len_cs, h]
/-- texts of all items -/
theorem out_note {α : Type} {tx : α → Str} {xs : List α} {n : Nat} {G : Hp} {acc : List V} (hn : xs.length = n) (h : Out (fun i G y => ∀ x, xs[i]? = some x → y = .str (tx x)) (fun _ => true) n G acc) : acc = (xs.map tx).map V.str := by
  obtain ⟨hl, ha⟩ := out_all h
  rw [List.map_map]
  refine List.ext_getElem? fun i => ?_
  rw [List.getElem?_map]
  cases e : xs[i]? with
  | none =>
    rw [List.getElem?_eq_none_iff] at e
    rw [List.getElem?_eq_none_iff.mpr (by omega)]
    rfl
  | some x =>
    have hi : i < acc.length := by
      have := (List.getElem?_eq_some_iff.mp e).1
      omega
    rw [List.getElem?_eq_getElem hi, ha i _ (List.getElem?_eq_getElem hi) x e]
    rfl
theorem join_notes (xs : List PyData) : cs (Txt.join ", " (xs.map note)) = txtAll qN xs := by
  rw [cs_joinC, all_jn, List.map_map]
  congr 1
theorem notes_sum (xs : List PyData) : ((xs.map note).map (·.length)).sum + (xs.map note).length * 2 ≤ (txtAll qN xs).length + 2 := by
  have h := jn_sum (xs.map (txt qN))
  rw [← all_jn] at h
  rw [List.map_map] at h ⊢
  rw [List.length_map] at h ⊢
  exact h
def pn (q : Str × PyData) : Str := noteS q.1 ++ (": " : Str) ++ note q.2
theorem cs_pn (q : Str × PyData) : cs (pn q) = txtP qN (.str q.1, q.2) := by
  unfold pn
  rw [cs_app, cs_app, show cs (": " : Str) = [58, 32] from by decide +kernel]
  show _ = txt qN (.str q.1) ++ 58 :: 32 :: txt qN q.2
  simp only [txt]
  show qN q.1 ++ [58, 32] ++ txt qN q.2 = _
  simp
abbrev Pd (ds : Mp) : List (PyData × PyData) := ds.map fun q => (.str q.1, q.2)
theorem pns (ds : Mp) : (ds.map pn).map cs = (Pd ds).map (txtP qN) := by
  rw [List.map_map, List.map_map]
  exact List.map_congr_left fun q _ => cs_pn q
theorem join_pns (ds : Mp) : cs (Txt.join ", " (ds.map pn)) = txtKv qN (Pd ds) := by
  rw [cs_joinC, kv_jn, pns]
theorem pns_sum (ds : Mp) : ((ds.map pn).map (·.length)).sum + (ds.map pn).length * 2 ≤ (txtKv qN (Pd ds)).length + 2 := by
  have h := jn_sum ((ds.map pn).map cs)
  rw [pns, ← kv_jn, ← pns] at h
  rw [List.length_map] at h
  refine Nat.le_trans (Nat.le_of_eq ?_) h
  congr 1
  rw [List.map_map, List.map_map, List.map_map]
  congr 1
abbrev sVN : Stmt := top 22
theorem scVN : FnScope ["value", "item", "key"] ["value"] (defScope sVN) := ⟨rfl, rfl, rfl, by decide +kernel, rfl, by decide +kernel, by decide +kernel⟩
def spVN (n : Nat) : Sp := fun vs H Q _ => ∃ (m : Nat) (v : V) (d : PyData), n = m + 1 ∧ m ≤ 2 ∧ vs = [v] ∧ IsD H m v d ∧ gd m d ∧ ∀ H', Same H H' → Q (.str (note d)) H'
section
variable {P : Program} {w : World} {K : PySem.W.Frag} {mg : Str → Option Value} {base : Heap} {f fs : Addr} {fd fsd : FuncData}
theorem none_vn {k : Nat} : FnOk P w K mg base CX0 k f fd ["value"] (spVN 0) := by
  have no : ∀ vs H Q E, ¬ spVN 0 vs H Q E := fun vs H Q E h => by
    obtain ⟨m, v, d, e, _⟩ := h
    omega
  exact ⟨fun vs H Q E h => absurd h (no vs H Q E), fun A outer s H args us vs Q E _ _ _ _ h => absurd h (no vs H Q E)⟩
theorem ok_vn1 {n : Nat} (F : Df K mg "value_notation" sVN ["value"] f fd) (B : Bi mg) (S : Df K mg "string_notation" sSN ["text"] fs fsd) (GS : FnOk P w K mg base CX0 1 fs fsd ["text"] spSN) (G : FnOk P w K mg base CX0 (n + 1) f fd ["value"] (spVN n)) :
    FnOk P w K mg base CX0 (n + 2) f fd ["value"] (spVN (n + 1)) := by
  refine F.fn.ok scVN (fun vs H Q E h => ?_) (fun cdv A outer s H vs Q E hr h => ?_)
  · obtain ⟨m, v, d, _, _, rfl, _⟩ := h
    rfl
  · obtain ⟨m, v, d, e, hm, rfl, hd, hg, q⟩ := h
    obtain rfl : n = m := by omega
    have hu := hu_of hr
    have hr1 := hr.mono (by omega : 1 ≤ n + 1)
    refine ⟨_, pss_cons (ps_if (pt_val (pe_callB call_isi (by rfl) B.isinstance boot_isinstance (pa_cons (pv 0) (pa_cons (pe_bltn (v := .ty "str") (by rfl) B.str boot_str rfl) pa_nil))))
        (pss_one (ps_ret (pe_call GS hr1 rfl S.m S.fn.kp S.b .nil pass0 (pa_cons (pv 0) pa_nil)))) pss_nil)
      (pss_cons (ps_if (pt_val (pe_callB call_isi (by rfl) B.isinstance boot_isinstance (pa_cons (pv 0) (pa_cons (pe_bltn (v := .ty "list") (by rfl) B.list boot_list rfl) pa_nil))))
        (pss_one (ps_ret (pe_op op_add_str (pe_op op_add_str pe_str (pe_join pe_str (pe_lc (own := [("item", 1)]) (g := gName 1) (tt := tYes) rfl scVN.nd (pi_list (pv 0)) (blkOk_by (N := ["value", "item", "key"]) (sc := defScope sVN) (by decide +kernel))
          (fun _ _ _ _ _ => pg_name (i := 1) scVN.nd rfl (Or.inl rfl)) (fun _ _ _ _ _ => pts_nil)
          (fun _ _ _ _ _ => pe_call G hr rfl F.m F.fn.kp F.b .nil pass0 (pa_cons (pv 1) pa_nil))))) pe_str))) pss_nil)
      (pss_cons (ps_if (pt_val (pe_callB call_isi (by rfl) B.isinstance boot_isinstance (pa_cons (pv 0) (pa_cons (pe_bltn (v := .ty "tuple") (by rfl) B.tuple boot_tuple rfl) pa_nil))))
        (pss_one (ps_ret (pe_op op_add_str (pe_op op_add_str pe_str (pe_join pe_str (pe_lc (own := [("item", 1)]) (g := gName 1) (tt := tYes) rfl scVN.nd (pi_tup (pv 0)) (blkOk_by (N := ["value", "item", "key"]) (sc := defScope sVN) (by decide +kernel))
          (fun _ _ _ _ _ => pg_name (i := 1) scVN.nd rfl (Or.inl rfl)) (fun _ _ _ _ _ => pts_nil)
          (fun _ _ _ _ _ => pe_call G hr rfl F.m F.fn.kp F.b .nil pass0 (pa_cons (pv 1) pa_nil)))))
          (pe_ifExp (pt_cmpR op_eq (pe_callB call_lenA (by rfl) B.len PySem.boot_len (pa_cons (pv 0) pa_nil)) pe_int (nomark _)) pe_str pe_str)))) pss_nil)
      (pss_cons (ps_if (pt_val (pe_callB call_isi (by rfl) B.isinstance boot_isinstance (pa_cons (pv 0) (pa_cons (pe_bltn (v := .ty "dict") (by rfl) B.dict boot_dict rfl) pa_nil))))
        (pss_one (ps_ret (pe_op op_add_str (pe_op op_add_str pe_str (pe_join pe_str (pe_lockR (pe_lc (own := [("key", 2)]) (g := gName 2) (tt := tYes) rfl scVN.nd (pi_keys (pv 0)) (blkOk_by (N := ["value", "item", "key"]) (sc := defScope sVN) (by decide +kernel))
          (fun _ _ _ _ _ => pg_name (i := 2) scVN.nd rfl (Or.inl rfl)) (fun _ _ _ _ _ => pts_nil)
          (fun _ _ _ _ _ => pe_op op_add_str (pe_op op_add_str (pe_call GS hr1 rfl S.m S.fn.kp S.b .nil pass0 (pa_cons (pv 2) pa_nil)) pe_str)
            (pe_call G hr rfl F.m F.fn.kp F.b .nil pass0 (pa_cons (pe_dget hu (pv 0) (pv 2) (fun _ _ => rfl)) pa_nil))))))) pe_str))) pss_nil)
      (pss_one (ps_ret (pe_callTy call_strF (by rfl) B.str (by decide +kernel) (pa_cons (pv 0) pa_nil))))))), ?_⟩
    refine ⟨_, rfl, _, _, _, _, _, rfl, .ty "str", tyX_of hd, kit_ty (kStr d), _, rfl, ?_⟩
    cases hs : isStr d with
    | true =>
      obtain ⟨x, rfl⟩ : ∃ i, d = .str i := by cases d <;> simp [isStr] at hs ⊢
      obtain rfl := isD_flat hd (u := .str x) rfl
      have hx : okS x ∧ x.length ≤ 5 := by cases n <;> exact hg
      exact iteT ⟨_, rfl, x, rfl, hx.1, hx.2, fun H1 s1 => q H1 s1⟩
    | false =>
    have hnl := note_len hm hg
    rw [len_cs, cs_note] at hnl
    refine iteF ⟨_, rfl, _, _, _, _, _, rfl, .ty "list", tyX_of hd, kit_ty (kLi d), _, rfl, ?_⟩
    cases hli : isLi d with
    | true =>
      obtain ⟨m, p, vs, xs, rfl, rfl, rfl, hp, hps⟩ := isD_list hd hli
      have hlen := Paired.length hps
      have hl' : xs.length ≤ 40 := hg.1
      have hsum := notes_sum xs
      have hjl : (Txt.join ", " (xs.map note)).length = (txtAll qN xs).length := by rw [len_cs, join_notes]
      have hq : (txt qN (.list xs)).length = (txtAll qN xs).length + 2 := by simp only [txt, List.length_cons, List.length_append, List.length_nil]
      refine iteT ⟨⟨_, rfl⟩, _, rfl, p, rfl, ⟨_, SqL.of hp⟩, fun D hD => lc_gen (gen_list (xs := vs)) hD (fun H s' => SqL.of (s' _ _ hp))
        (fun i G y => ∀ x, xs[i]? = some x → y = .str (note x)) (fun _ => true) (fun i G G' y s' e => e) (by omega) ?_ ?_⟩
      · rintro i x H2 acc Nx hi e1 s2 hacc _ nx
        obtain ⟨y, e2, hy⟩ := paired_get hps e1
        refine ⟨rfl, ifT (B := Nx H2) rfl ⟨_, rfl, m, x, y, rfl, by omega, rfl, hy.mono (rdS_of s2), hg.2 y (List.mem_of_getElem? e2), fun H3 s3 => ?_⟩⟩
        exact nx _ H3 s3 rfl fun x hx => by rw [e2] at hx; cases hx; rfl
      · intro H2 acc s2 hD2 out
        obtain rfl := out_note (by omega) out
        refine ⟨_, D, xs.map note, rfl, rfl, .inl (SqL.of hD2), ?_, _, _, rfl, rfl, ?_, _, _, rfl, rfl, ?_, ?_⟩
        · rw [show (", " : Str).length = 2 from by decide +kernel]; omega
        · rw [show ("[" : Str).length = 1 from by decide +kernel]; exact le_line (by omega)
        · rw [len_app, show ("[" : Str).length = 1 from by decide +kernel, show ("]" : Str).length = 1 from by decide +kernel]; exact le_line (by omega)
        · have e : ("[" : Str) ++ Txt.join ", " (xs.map note) ++ ("]" : Str) = note (.list xs) := by
            refine str_of_cs ?_
            rw [cs_app, cs_app, join_notes, show cs ("[" : Str) = [91] from by decide +kernel, show cs ("]" : Str) = [93] from by decide +kernel]
            simp only [txt]
            rfl
          have q2 := q H2 s2
          rw [← e] at q2
          exact q2
    | false =>
    refine iteF ⟨_, rfl, _, _, _, _, _, rfl, .ty "tuple", tyX_of hd, kit_ty (kTu d), _, rfl, ?_⟩
    cases htu : isTu d with
    | true =>
      obtain ⟨m, p, vs, xs, rfl, rfl, rfl, hp, hps⟩ := isD_tup hd htu
      have hlen := Paired.length hps
      have hl' : xs.length ≤ 40 := hg.1
      have hsum := notes_sum xs
      have hjl : (Txt.join ", " (xs.map note)).length = (txtAll qN xs).length := by rw [len_cs, join_notes]
      have hq : (txtAll qN xs).length + 2 ≤ (txt qN (.tuple xs)).length := by
        simp only [txt, List.length_cons, List.length_append]
        split <;> simp
      refine iteT ⟨⟨_, rfl⟩, _, rfl, p, rfl, ⟨_, SqT.of hp⟩, fun D hD => lc_gen (gen_tup (xs := vs)) hD (fun H s' => SqT.of (s' _ _ hp))
        (fun i G y => ∀ x, xs[i]? = some x → y = .str (note x)) (fun _ => true) (fun i G G' y s' e => e) (by omega) ?_ ?_⟩
      · rintro i x H2 acc Nx hi e1 s2 hacc _ nx
        obtain ⟨y, e2, hy⟩ := paired_get hps e1
        refine ⟨rfl, ifT (B := Nx H2) rfl ⟨_, rfl, m, x, y, rfl, by omega, rfl, hy.mono (rdS_of s2), hg.2 y (List.mem_of_getElem? e2), fun H3 s3 => ?_⟩⟩
        exact nx _ H3 s3 rfl fun x hx => by rw [e2] at hx; cases hx; rfl
      · intro H2 acc s2 hD2 out
        obtain rfl := out_note (by omega) out
        refine ⟨_, D, xs.map note, rfl, rfl, .inl (SqL.of hD2), ?_, _, _, rfl, rfl, ?_, _, rfl, _, _, rfl, lenA_of (hd.mono (rdS_of s2)) (by simp [kd]), rfl, _, rfl, ?_⟩
        · rw [show (", " : Str).length = 2 from by decide +kernel]; omega
        · rw [show ("(" : Str).length = 1 from by decide +kernel]; exact le_line (by omega)
        have q2 := q H2 s2
        refine ite2 (fun z => ?_) (fun z => ?_)
        · refine ⟨_, _, rfl, rfl, ?_, ?_⟩
          · rw [len_app, show ("(" : Str).length = 1 from by decide +kernel, show (",)" : Str).length = 2 from by decide +kernel]; exact le_line (by omega)
          · have e : ("(" : Str) ++ Txt.join ", " (xs.map note) ++ (",)" : Str) = note (.tuple xs) := by
              refine str_of_cs ?_
              rw [cs_app, cs_app, join_notes, show cs ("(" : Str) = [40] from by decide +kernel, show cs (",)" : Str) = [44, 41] from by decide +kernel]
              have h1 : xs.length = 1 := Int.ofNat.inj (V.int.inj (of_decide_eq_true z))
              simp only [txt, h1]
              rfl
            rw [← e] at q2
            exact q2
        · refine ⟨_, _, rfl, rfl, ?_, ?_⟩
          · rw [len_app, show ("(" : Str).length = 1 from by decide +kernel, show (")" : Str).length = 1 from by decide +kernel]; exact le_line (by omega)
          · have e : ("(" : Str) ++ Txt.join ", " (xs.map note) ++ (")" : Str) = note (.tuple xs) := by
              refine str_of_cs ?_
              rw [cs_app, cs_app, join_notes, show cs ("(" : Str) = [40] from by decide +kernel, show cs (")" : Str) = [41] from by decide +kernel]
              have h1 : ¬ xs.length = 1 := fun e => z (decide_eq_true (congrArg (fun k : Nat => V.int (k : Int)) e))
              simp only [txt, beq_iff_eq, h1, if_false]
              rfl
            rw [← e] at q2
            exact q2
    | false =>
    refine iteF ⟨_, rfl, _, _, _, _, _, rfl, .ty "dict", tyX_of hd, kit_ty (kDi d), _, rfl, ?_⟩
    cases hdi : isDi d with
    | true =>
      obtain ⟨m, p, ks, ds, rfl, rfl, rfl, hrd, hkv⟩ := isD_dict hd hdi
      refine iteT ⟨⟨_, rfl⟩, p, ks, hrd, fun od H1 h1 rs off => ?_⟩
      have hlen : ks.length = ds.length := Paired.length hkv
      have hl' : ds.length ≤ 40 := by simpa using hg.1
      have nd := hkv.nodup (gd_keys hg)
      have hsum := pns_sum ds
      have hjl : (Txt.join ", " (ds.map pn)).length = (txtKv qN (Pd ds)).length := by rw [len_cs, join_pns]
      have hq : (txt qN (.dict (Pd ds))).length = (txtKv qN (Pd ds)).length + 2 := by simp only [txt, List.length_cons, List.length_append, List.length_nil]
      have hnl' : (txt qN (.dict (Pd ds))).length ≤ 211210 := hnl
      refine ⟨_, rfl, p, od, rfl, .inl ⟨ks, h1, fun D hD => lc_gen gen_keys hD (fun H s' => s' _ _ h1)
        (fun i G y => ∀ x, ds[i]? = some x → y = .str (pn x)) (fun _ => true) (fun i G G' y s' e => e) (by omega) ?_ ?_⟩⟩
      · rintro i x H2 acc Nx hi ⟨k, u, e1, rfl⟩ s2 hacc _ nx
        refine ⟨rfl, ifT (B := Nx H2) rfl ?_⟩
        obtain ⟨j, y, e2, rfl, hu'⟩ := hkv.get e1
        have hgp := hg.2.1 (.str j, y) (List.mem_map_of_mem (f := fun q => ((.str q.1, q.2) : PyData × PyData)) (List.mem_of_getElem? e2))
        have hgy : gd m y := hgp.2
        obtain ⟨hj1, hj2⟩ : okS j ∧ j.length ≤ 5 := by
          obtain ⟨⟨k, e, h1, h2⟩, _⟩ := hgp
          cases e
          exact ⟨h1, h2⟩
        have hs1 : (noteS j).length ≤ 20 := by rw [len_cs]; exact qN_len j hj2
        have hs2 := note_len (by omega : m ≤ 2) hgy
        refine ⟨_, rfl, j, rfl, hj1, hj2, fun H3 s3 => ⟨_, _, rfl, rfl, ?_, ?_⟩⟩
        · rw [show (": " : Str).length = 2 from by decide +kernel]; exact le_line (by omega)
        have hd3 : Rd H3 p (.dK ks) := .inr ⟨od, (s2.trans s3) _ _ h1⟩
        refine ⟨_, rfl, _, rfl, p, u, rfl, .inl ⟨ks, .inr j, hd3, rfl, (valV_get nd e1).symm⟩, ?_⟩
        refine ⟨m, u, y, rfl, by omega, rfl, hu'.mono (rs.trans ((rdS_of s2).trans (rdS_of s3))), hgy, fun H4 s4 => ⟨_, _, rfl, rfl, ?_, ?_⟩⟩
        · rw [len_app, show (": " : Str).length = 2 from by decide +kernel]; exact le_line (by omega)
        · exact nx _ H4 (s3.trans s4) rfl fun x hx => by rw [e2] at hx; cases hx; rfl
      · intro H2 acc s2 hD2 out
        refine ⟨s2 _ _ h1, fun H3 sb rs2 off2 => ?_⟩
        obtain rfl := out_note (by omega) out
        refine ⟨_, D, ds.map pn, rfl, rfl, .inl (SqL.of (rs2.lst _ _ hD2)), ?_, _, _, rfl, rfl, ?_, _, _, rfl, rfl, ?_, ?_⟩
        · rw [show (", " : Str).length = 2 from by decide +kernel]; omega
        · rw [show ("{" : Str).length = 1 from by decide +kernel]; exact le_line (by omega)
        · rw [len_app, show ("{" : Str).length = 1 from by decide +kernel, show ("}" : Str).length = 1 from by decide +kernel]; exact le_line (by omega)
        · have e : ("{" : Str) ++ Txt.join ", " (ds.map pn) ++ ("}" : Str) = note (.dict (Pd ds)) := by
            refine str_of_cs ?_
            rw [cs_app, cs_app, join_pns, show cs ("{" : Str) = [123] from by decide +kernel, show cs ("}" : Str) = [125] from by decide +kernel]
            simp only [txt]
            rfl
          have q2 := q H3 (sb s2)
          rw [show (PyData.dict (ds.map fun q => (.str q.1, q.2))) = PyData.dict (Pd ds) from rfl, ← e] at q2
          exact q2
    | false =>
    refine iteF ⟨_, rfl, v, d, rfl, ?_, hs, ?_, q H (fun _ _ z => z)⟩
    · cases d with
      | list _ => cases hli
      | tuple _ => cases htu
      | dict _ => cases hdi
      | none => rw [isD_flat hd (u := .non) rfl]; rfl
      | bool b => rw [isD_flat hd (u := .bl b) rfl]; rfl
      | int b => rw [isD_flat hd (u := .int b) rfl]; rfl
      | str b => rw [isD_flat hd (u := .str b) rfl]; rfl
    · rintro i rfl
      cases n <;> exact hg
theorem ok_vn (F : Df K mg "value_notation" sVN ["value"] f fd) (B : Bi mg) (S : Df K mg "string_notation" sSN ["text"] fs fsd) (GS : FnOk P w K mg base CX0 1 fs fsd ["text"] spSN) : ∀ n, FnOk P w K mg base CX0 (n + 1) f fd ["value"] (spVN n)
  | 0 => none_vn
  | n + 1 => ok_vn1 F B S GS (ok_vn F B S GS n)
end
end Mw

end

section
set_option Elab.async false
set_option linter.all false
set_option maxRecDepth 100000
set_option maxHeartbeats 4000000
/-! check_mappings. -/
namespace Mw
open PySem PySem.Spec PyProof.Rows L2
theorem pe_callR {X : Cx} {CX : CXT} {k : Nat} {f : Addr} {sp : Sp} {E : XK} {x : Str} {p pos : Pos} {e : Expr} {es : List Expr} {t : TA} (F : FnR X.prog X.w X.K X.mg X.base CX k f sp) (hr : Room k X.A) (hg : Gl X x) (hm : X.mg x = some (.ref f)) (hk : PySem.W.keepIn X.K (.ref f) = true) (hx : Passes CX X E)
    (ha : PA X (e :: es) t) (hdb : (x == ("__debug__" : Str)) = false := by decide) (he : starEach (e :: es) X.env = (false, eval e X.env) :: starEach es X.env := by rfl) (hpl : (backTo pos (starEach es X.env)).any (·.1) = false := by rfl) :
    PE X (.Call (.Name x p) (e :: es) [] pos) (fun σ H Q => t σ H fun vs H1 => sp vs H1 Q E) := by
  refine ⟨fun pins s σ H Q I h => ?_⟩
  refine wpAny_Call_Name_kw (ld_glob I hg hm ?_ hdb)
  refine PySem.W.callWith_K (h₀ := X.base) I.ok.mod.kin hk (thn (ha.run pos pins s σ H _ I h) fun us s1 ⟨vs, H1, I1, r, q⟩ => ⟨I1.kIn, ?_⟩) he hpl
  exact wpAny_call (run_fnR F hr hx I1 r q)

abbrev sCM : Stmt := top 24
theorem scCM : FnScope ["mappings", "mapping", "key"] ["mappings"] (defScope sCM) := ⟨rfl, rfl, rfl, by decide +kernel, rfl, by decide +kernel, by decide +kernel⟩
/-- mappings, by their addresses -/
abbrev MapsAt (H : Hp) : List Addr → List Mp → Prop := Paired fun d m => MapAt H d m ∧ OkM 40 m
def spCM : Sp := fun vs H Q _ => ∃ (as : List Addr) (ms : List Mp), vs = as.map V.ref ∧ as.length ≤ 3 ∧ MapsAt H as ms ∧ ∀ H', Same H H' → Q .non H'
theorem acc_true {n : Nat} {acc : List V} (hl : acc.length = n) (h : ∀ (i : Nat) (y : V), acc[i]? = some y → y = .bl true) : acc = (List.replicate n true).map V.bl := by
  subst hl
  apply List.ext_getElem?
  intro i
  by_cases hi : i < acc.length
  · rw [List.getElem?_eq_getElem hi, h i _ (List.getElem?_eq_getElem hi)]
    simp [hi]
  · simp [hi]
theorem all_true (n : Nat) : (List.replicate n true).all id = true := by
  rw [List.all_replicate]
  simp
section
variable {P : Program} {w : World} {K : PySem.W.Frag} {mg : Str → Option Value} {base : Heap} {f fk fv : Addr} {fd fkd fvd : FuncData}
theorem ok_cm (F : Fun K "check_mappings" "check_mappings" sCM f fd) (B : Bi mg) (IK : Df K mg "is_key" sIsKey ["value"] fk fkd) (IV : Df K mg "is_value" sIsV ["value"] fv fvd)
    (GK : FnOk P w K mg base CX0 1 fk fkd ["value"] spIsKey) (GV : FnOk P w K mg base CX0 4 fv fvd ["value"] spIsV) : FnR P w K mg base CX0 5 f spCM := by
  obtain ⟨oc, od, kV, doc, pm, an, cdv, ct, osl, rfl, lk, hcd⟩ := F.ex
  refine FnR.imp (StX.fn_star (CX := CX0) (k := 4) (ps := []) (pv := "mappings") (N := ["mappings", "mapping", "key"]) (sp := fun vs H Q _ => ∃ (p : Addr) (as : List Addr) (ms : List Mp), vs = [.ref p] ∧ H p = some (.tup (as.map V.ref)) ∧ as.length ≤ 3 ∧ MapsAt H as ms ∧ ∀ H', Same H H' → Q .non H') lk hcd scCM StX.cxUp_none ?_ ?_) ?_
  · intro us rest hl
    cases us with
    | nil => cases rest <;> rfl
    | cons _ _ => cases hl
  · intro A outer s H vs Q E hr h
    obtain ⟨p, as, ms, rfl, hp, hl, hm, q⟩ := h
    have hu := hu_of hr
    have key : ∃ t, PSs (cxOf CX0 P w K mg base ["mappings", "mapping", "key"] "check_mappings" (defScope sCM) f cdv A outer s H E).nox (defBody sCM) t ∧ t { nx := fun _ H' => Q .non H', rt := Q } (start ["mappings", "mapping", "key"] [V.ref p]) H := by
      refine ⟨_, pss_one (ps_for PassesOwn.never rfl (pi_tup (pv 0)) (pg_name (i := 1) scCM.nd rfl (Or.inr rfl))
        (pss_one (ps_if (PW.pt (pw_or (pt_not (pt_val (pe_callB call_isi (by rfl) B.isinstance boot_isinstance (pa_cons (pv 1) (pa_cons (pe_bltn (v := .ty "dict") (by rfl) B.dict boot_dict rfl) pa_nil)))))
            (pw_or1 (pt_not (pt_val (pe_callB (cr_all rfl) (by rfl) B.all (by decide +kernel) (pa_cons (pe_lockR (pe_lc (own := [("key", 2)]) (g := gName 2) (tt := tYes) rfl scCM.nd (pi_keys (pv 1)) (blkOk_by (N := ["mappings", "mapping", "key"]) (sc := defScope sCM) (by decide +kernel))
              (fun _ _ _ _ _ => pg_name (i := 2) scCM.nd rfl (Or.inl rfl)) (fun _ _ _ _ _ => pts_nil)
              (fun _ _ _ _ _ => pe_and (pe_call GK (hr.mono (by decide)) rfl IK.m IK.fn.kp IK.b .nil pass0 (pa_cons (pv 2) pa_nil)) (pe_one (pe_call GV hr rfl IV.m IV.fn.kp IV.b .nil pass0 (pa_cons (pe_dget hu (pv 1) (pv 2) (fun _ _ => rfl)) pa_nil)))))) pa_nil)))))))
          (pss_one ps_never) pss_nil))), ?_⟩
      refine ⟨_, rfl, p, rfl, ⟨_, SqT.of hp⟩, for_tup (xs := as.map V.ref) (fun i σ H3 => Same H H3 ∧ ∃ a b, σ = [some (.ref p), a, b])
        ⟨fun _ _ z => z, _, _, rfl⟩ (fun i σ H3 _ h => SqT.of (h.1 _ _ hp)) ?_ ?_⟩
      · rintro i x σ H3 hx ⟨s3, a, b, rfl⟩
        obtain ⟨d, hd, rfl⟩ : ∃ t, as[i]? = some t ∧ x = .ref t := by
          rw [List.getElem?_map] at hx
          cases e : as[i]? with
          | none => rw [e] at hx; cases hx
          | some t => rw [e] at hx; exact ⟨t, rfl, (Option.some.inj hx).symm⟩
        obtain ⟨m, hmi, ⟨ks, hr1, hkv1⟩, hok⟩ := paired_get hm hd
        have hrd : Rd H3 d (.dK ks) := (rdS_of s3).rd d _ rfl hr1
        have hkv := hkv1.mono (rdS_of s3)
        have hlen : ks.length = m.length := Paired.length hkv
        have hml := hok.len
        have nd := hkv.nodup hok.nd
        refine ⟨_, rfl, _, _, _, _, true, rfl, .ty "dict", tyX_of (MapAt.isD (m := m) ⟨ks, hrd, hkv⟩), kit_ty (kDi (mapD m)), true, rfl, ?_⟩
        refine ifF rfl ⟨d, ks, hrd, fun od H4 h1 rs off => ?_⟩
        refine ⟨_, rfl, d, od, rfl, .inl ⟨ks, h1, fun D hD => lc_gen gen_keys hD (fun H s' => s' _ _ h1)
          (fun i G y => y = .bl true) (fun _ => true) (fun i G G' y s' e => e) (by omega) ?_ ?_⟩⟩
        · rintro i x H5 acc Nx hi ⟨k, v, e1, rfl⟩ s5 hacc _ nx
          obtain ⟨j, y, e2, rfl, hy⟩ := hkv.get e1
          have hkj := hok.key (j, y) (List.mem_of_getElem? e2)
          have hvj := hok.val (j, y) (List.mem_of_getElem? e2)
          refine ⟨rfl, ifT (B := Nx H5) rfl ⟨_, rfl, j, rfl, hkj.2.1, Nat.le_trans hkj.2.2 (by omega), true, rfl, iteT ?_⟩⟩
          have hd5 : Rd H5 d (.dK ks) := .inr ⟨od, s5 _ _ h1⟩
          refine ⟨_, rfl, _, rfl, d, v, rfl, .inl ⟨ks, .inr j, hd5, rfl, (valV_get nd e1).symm⟩, ?_⟩
          exact ⟨v, y, rfl, hy.mono (rs.trans (rdS_of s5)), hvj, fun H6 s6 => nx _ H6 s6 rfl rfl⟩
        · intro H5 acc s5 hD5 out
          obtain ⟨hal, hag⟩ := out_all out
          refine ⟨s5 _ _ h1, fun H6 sb rs6 off6 => ?_⟩
          obtain rfl := acc_true hal hag
          refine ⟨_, _, rfl, .inl (.inl (rs6.lst _ _ hD5)), _, rfl, ?_⟩
          rw [all_true]
          exact ⟨s3.trans (sb s5), _, _, rfl⟩
      · rintro σ H3 ⟨s3, a, b, rfl⟩
        exact q H3 s3
    obtain ⟨t, ht, hq⟩ := key
    exact ⟨t, ht.nox, hq⟩
  · rintro vs H Q E ⟨as, ms, rfl, hl, hm, q⟩
    refine ⟨[], as.map V.ref, rfl, rfl, le_line (by rw [List.length_map]; omega), fun p hp => ⟨p, as, ms, rfl, upd_same, hl, ?_, fun H' s' => q H' ((same_upd hp).trans s')⟩⟩
    exact Paired.mapP hm fun d m h => ⟨h.1.mono (rdS_of (same_upd hp)), h.2⟩
end
end Mw

end

section
set_option Elab.async false
set_option linter.all false
set_option maxRecDepth 100000
set_option maxHeartbeats 4000000
/-! are_alike, are_same. -/
namespace Mw
open PySem PySem.Spec PyProof.Rows L2
theorem gd_up : ∀ {n : Nat} {d : PyData}, gd n d → gd (n + 1) d
  | 0, _, h => gd_up0 h
  | n + 1, .list xs, h => ⟨h.1, fun x hx => gd_up (h.2 x hx)⟩
  | n + 1, .tuple xs, h => ⟨h.1, fun x hx => gd_up (h.2 x hx)⟩
  | n + 1, .dict kvs, h => ⟨h.1, fun p hp => ⟨(h.2.1 p hp).1, gd_up (h.2.1 p hp).2⟩, h.2.2⟩
  | n + 1, .none, h => h
  | n + 1, .bool _, h => h
  | n + 1, .int _, h => h
  | n + 1, .str _, h => h
abbrev sAA : Stmt := top 25
theorem scAA : FnScope ["one", "other"] ["one", "other"] (defScope sAA) := ⟨rfl, rfl, rfl, by decide +kernel, rfl, by decide +kernel, by decide +kernel⟩
def spAA : Sp := fun vs H Q _ => ∃ (v u : V) (d e : PyData), vs = [v, u] ∧ IsD H 2 v d ∧ IsD H 2 u e ∧ gd 2 d ∧ gd 2 e ∧ ∀ H', Same H H' → Q (.bl (eqD (some d) (some e))) H'
abbrev sAS : Stmt := top 26
theorem scAS : FnScope ["one", "other"] ["one", "other"] (defScope sAS) := ⟨rfl, rfl, rfl, by decide +kernel, rfl, by decide +kernel, by decide +kernel⟩
def spAS : Sp := fun vs H Q _ => ∃ (a b : Addr) (m m' : Mp), vs = [.ref a, .ref b] ∧ MapAt H a m ∧ MapAt H b m' ∧ OkM 40 m ∧ OkM 40 m' ∧ ∀ H', Same H H' → Q (.bl (eqD (some (mapD m)) (some (mapD m')))) H'
section
variable {P : Program} {w : World} {K : PySem.W.Frag} {mg : Str → Option Value} {base : Heap} {f fv fc : Addr} {fd fvd : FuncData}
theorem ok_aa (F : Df K mg "are_alike" sAA ["one", "other"] f fd) (V' : Df K mg "value_notation" sVN ["value"] fv fvd) (GV : FnOk P w K mg base CX0 4 fv fvd ["value"] (spVN 3)) : FnOk P w K mg base CX0 5 f fd ["one", "other"] spAA := by
  refine F.fn.ok scAA (fun vs H Q E h => ?_) (fun cdv A outer s H vs Q E hr h => ?_)
  · obtain ⟨v, u, d, e, rfl, _⟩ := h
    rfl
  · obtain ⟨v, u, d, e, rfl, hd, he, gd1, ge1, q⟩ := h
    refine ⟨_, pss_one (ps_ret (pe_cmpR op_eq (pe_call GV hr rfl V'.m V'.fn.kp V'.b .nil pass0 (pa_cons (pv 0) pa_nil)) (pe_call GV hr rfl V'.m V'.fn.kp V'.b .nil pass0 (pa_cons (pv 1) pa_nil)) (nomark _))), ?_⟩
    refine ⟨_, rfl, 2, v, d, rfl, Nat.le_refl _, rfl, hd, gd1, fun H1 s1 => ?_⟩
    refine ⟨_, rfl, 2, u, e, rfl, Nat.le_refl _, rfl, he.mono (rdS_of s1), ge1, fun H2 s2 => ?_⟩
    refine ⟨rfl, qb ?_ (q H2 (s1.trans s2))⟩
    rw [Bool.eq_iff_iff, decide_eq_true_iff, eqD_iff]
    constructor
    · intro z
      rw [note_inj (gd_good 2 d gd1) (gd_good 2 e ge1) (V.str.inj z)]
    · intro z
      rw [Option.some.inj z]
theorem ok_as (F : Df K mg "are_same" sAS ["one", "other"] f fd) (C : Fun K "check_mappings" "check_mappings" sCM fc fcd) (mC : mg "check_mappings" = some (.ref fc)) (V' : Df K mg "are_alike" sAA ["one", "other"] fv fvd) (GC : FnR P w K mg base CX0 5 fc spCM) (GV : FnOk P w K mg base CX0 5 fv fvd ["one", "other"] spAA) :
    FnOk P w K mg base CX0 6 f fd ["one", "other"] spAS := by
  refine F.fn.ok scAS (fun vs H Q E h => ?_) (fun cdv A outer s H vs Q E hr h => ?_)
  · obtain ⟨v, u, d, e, rfl, _⟩ := h
    rfl
  · obtain ⟨a, b, m, m', rfl, ha, hb, oa, ob, q⟩ := h
    refine ⟨_, pss_cons (ps_expr (pe_callR GC hr rfl mC C.kp pass0 (pa_cons (pv 0) (pa_cons (pv 1) pa_nil)))) (pss_one (ps_ret (pe_call GV hr rfl V'.m V'.fn.kp V'.b .nil pass0 (pa_cons (pv 0) (pa_cons (pv 1) pa_nil))))), ?_⟩
    refine ⟨_, rfl, _, rfl, [a, b], [m, m'], rfl, (by show 2 ≤ 3; decide), .cons ⟨ha, oa⟩ (.cons ⟨hb, ob⟩ .nil), fun H1 s1 => ?_⟩
    exact ⟨_, rfl, _, rfl, _, _, _, _, rfl, (ha.mono (rdS_of s1)).isD, (hb.mono (rdS_of s1)).isD, mapD_gd oa (by decide), mapD_gd ob (by decide), fun H2 s2 => q _ (s1.trans s2)⟩
end
end Mw

end

section
set_option Elab.async false
set_option linter.all false
set_option maxRecDepth 100000
set_option maxHeartbeats 4000000
/-! applied. -/
namespace Mw
open PySem PySem.Spec PyProof.Rows L2
theorem ix_tupK {X : Cx} {K : PySem.W.Frag} (e : X.K = K) : IxR X (rIxT K) := by
  subst e
  exact ix_tup
theorem ix_listK {X : Cx} {K : PySem.W.Frag} (e : X.K = K) : IxR X (rIxL K) := by
  subst e
  exact ix_list
/-- a deed, as a tuple -/
def DeedAt (H : Hp) (t : Addr) : Deed → Prop
  | .put k x => ∃ v, H t = some (.tup [.str "put", .str k, v]) ∧ IsD H 1 v x ∧ gd 1 x ∧ okK k
  | .drop k => H t = some (.tup [.str "drop", .str k]) ∧ okK k
theorem DeedAt.mono {H H' : Hp} (s : RdS H H') {t : Addr} {d : Deed} (h : DeedAt H t d) : DeedAt H' t d := by
  cases d with
  | put k x => obtain ⟨v, h1, h2, h3⟩ := h; exact ⟨v, s.tup _ _ h1, h2.mono s, h3⟩
  | drop k => exact ⟨s.tup _ _ h.1, h.2⟩
theorem fr_hid_comm {H G : Hp} {D : Addr} : fr H (hid D G) = hid D (fr H G) := by
  funext b
  by_cases hb : b = D
  · subst hb
    rw [hid_same]
    unfold fr
    rw [hid_same]
    split <;> rfl
  · rw [hid_ne hb]
    unfold fr
    rw [hid_ne hb]
theorem RdS.hid {G G' : Hp} {D : Addr} (s : RdS G G') : RdS (hid D G) (hid D G') where
  rd := fun a u n h => by
    by_cases hb : a = D
    · subst hb
      rcases h with h | ⟨o, h⟩ <;> rw [hid_same] at h <;> cases h
    · have h' : Rd G a u := h.imp (fun h => by rw [hid_ne hb] at h; exact h) fun ⟨o, h⟩ => ⟨o, by rw [hid_ne hb] at h; exact h⟩
      exact (s.rd a u n h').imp (fun h => by rw [hid_ne hb]; exact h) fun ⟨o, h⟩ => ⟨o, by rw [hid_ne hb]; exact h⟩
  lst := fun a xs h => by
    by_cases hb : a = D
    · subst hb; rw [hid_same] at h; cases h
    · rw [hid_ne hb] at h ⊢; exact s.lst a xs h
  tup := fun a xs h => by
    by_cases hb : a = D
    · subst hb; rw [hid_same] at h; cases h
    · rw [hid_ne hb] at h ⊢; exact s.tup a xs h
theorem hid_fr_upd {H G : Hp} {r : Addr} {o : HO} : hid r (fr H (upd G r o)) = hid r (fr H G) := by rw [← fr_hid_comm, ← fr_hid_comm, upd_hid]
theorem keep_lock {H H3 H4 H5 : Hp} {r D : Addr} (off : ∀ b, b ≠ r → H4 b = H3 b) (s : Same H4 H5) (hD : H4 D = none) : Same (hid r (fr H H3)) (hid r (fr H (hid D H5))) := fun b o e => by
  by_cases hb : b = r
  · subst hb; rw [hid_same] at e; cases e
  · rw [hid_ne hb] at e ⊢
    by_cases hn : H b = none
    · rw [fr_new hn] at e ⊢
      have e4 : H4 b = some o := by rw [off b hb]; exact e
      rw [hid_ne (fun z => by rw [z, hD] at e4; cases e4)]
      exact s b o e4
    · obtain ⟨o', ho⟩ := Option.ne_none_iff_exists'.mp hn
      rw [fr_old ho] at e; cases e
theorem keep_unlock {H H5 H6 : Hp} {r D : Addr} (off : ∀ b, b ≠ r → H6 b = H5 b) : Same (hid r (fr H (hid D H5))) (hid D (fr H H6)) := fun b o e => by
  by_cases hb : b = r
  · subst hb; rw [hid_same] at e; cases e
  · rw [hid_ne hb] at e
    by_cases hn : H b = none
    · rw [fr_new hn] at e
      by_cases hd : b = D
      · subst hd; rw [hid_same] at e; cases e
      · rw [hid_ne hd] at e ⊢
        rw [fr_new hn, off b hb]
        exact e
    · obtain ⟨o', ho⟩ := Option.ne_none_iff_exists'.mp hn
      rw [fr_old ho] at e; cases e
theorem paired_comp {α β γ : Type} {F : α → β → Prop} {G : α → γ → Prop} {J : β → γ → Prop} (h : ∀ a b c, F a b → G a c → J b c) : ∀ {l : List α} {m : List β} {n : List γ}, Paired F l m → Paired G l n → Paired J m n
  | _, _, _, .nil, .nil => .nil
  | _, _, _, .cons r t, .cons r' t' => .cons (h _ _ _ r r') (paired_comp h t t')
theorem kp_filter {α : Type} {m : List α} {keep : Nat → Bool} {P : α → Bool} (hk : ∀ i x, m[i]? = some x → keep i = P x) : ∀ n, n ≤ m.length → Paired (fun i x => m[i]? = some x) (kp keep n) ((m.take n).filter P)
  | 0, _ => .nil
  | n + 1, h => by
    have ih := kp_filter hk n (by omega)
    have e : m[n]? = some (m[n]'(by omega)) := List.getElem?_eq_getElem (by omega)
    rw [kp_succ, take_succ e, List.filter_append, hk n _ e]
    cases hp : P (m[n]'(by omega)) with
    | true =>
      rw [if_pos rfl, List.filter_cons_of_pos hp, List.filter_nil]
      exact paired_app ih e
    | false =>
      rw [if_neg Bool.false_ne_true, List.filter_cons_of_neg (by rw [hp]; exact Bool.false_ne_true), List.filter_nil, List.append_nil]
      exact ih
theorem kv_out {G : Hp} {n k : Nat} {ks kvs : List (Key × V)} {m : Mp} {keep : Nat → Bool} {P : Str × PyData → Bool} (hl : m.length = k) (hkey : ∀ i x, m[i]? = some x → keyAt ks i = .inr x.1) (hk : ∀ i x, m[i]? = some x → keep i = P x)
    (out : Paired (fun i (q : Key × V) => q.1 = keyAt ks i ∧ ∀ x, m[i]? = some x → IsD G n q.2 x.2) (kp keep k) kvs) : KvD G n kvs (m.filter P) := by
  subst hl
  have h := kp_filter hk m.length (Nat.le_refl _)
  rw [List.take_length] at h
  exact paired_comp (fun i q x h1 h2 => ⟨h1.1.trans (hkey i x h2), h1.2 x h2⟩) out h
theorem KvD.keyAt {H : Hp} {n : Nat} {ks : List (Key × V)} {m : Mp} (h : KvD H n ks m) (i : Nat) (x : Str × PyData) (e : m[i]? = some x) : keyAt ks i = .inr x.1 := by
  have hl := Paired.length h
  have hi : i < ks.length := by have := (List.getElem?_eq_some_iff.mp e).1; omega
  obtain ⟨k, u, e3⟩ : ∃ k u, ks[i]? = some (k, u) := ⟨(ks[i]'hi).1, (ks[i]'hi).2, by rw [List.getElem?_eq_getElem hi]⟩
  obtain ⟨j, y, e4, rfl, _⟩ := h.get e3
  rw [e] at e4; cases e4
  rw [keyAt_eq e3]
theorem filter_true {α : Type} (l : List α) : l.filter (fun _ => true) = l := List.filter_eq_self.mpr fun _ _ => rfl
theorem done_take {m : Mp} {ds : List Deed} {i : Nat} {d : Deed} (e : ds[i]? = some d) : doneM m (ds.take (i + 1)) = stepM (doneM m (ds.take i)) d := by
  rw [take_succ e]
  unfold doneM
  rw [List.foldl_append]
  rfl
abbrev sAp : Stmt := top 27
theorem scAp : FnScope ["mapping", "deeds", "found", "key", "deed"] ["mapping", "deeds"] (defScope sAp) := ⟨rfl, rfl, rfl, by decide +kernel, rfl, by decide +kernel, by decide +kernel⟩
def spAp : Sp := fun vs H Q _ => ∃ (a p : Addr) (m : Mp) (ts : List Addr) (ds : List Deed), vs = [.ref a, .ref p] ∧ MapAt H a m ∧ OkM 40 m ∧ H p = some (.lst (ts.map V.ref)) ∧ Paired (DeedAt H) ts ds ∧ ds.length ≤ 100 ∧
  ∀ H' r, Same H H' → MapAt (fr H H') r (doneM m ds) → Q (.ref r) H'
section
variable {P : Program} {w : World} {K : PySem.W.Frag} {mg : Str → Option Value} {base : Heap} {f fv fc : Addr} {fd fvd fcd : FuncData}
theorem ok_ap (F : Df K mg "applied" sAp ["mapping", "deeds"] f fd) (C : Df K mg "copied" sCop ["value"] fc fcd) (GC : FnOk P w K mg base CX0 5 fc fcd ["value"] spCop) : FnOk P w K mg base CX0 6 f fd ["mapping", "deeds"] spAp := by
  refine F.fn.ok scAp (fun vs H Q E h => ?_) (fun cdv A outer s H vs Q E hr h => ?_)
  · obtain ⟨a, p, m, ts, ds, rfl, _⟩ := h
    rfl
  · obtain ⟨a, p, m, ts, ds, rfl, ⟨ks, hrd, hkv⟩, okm, hp, hds, hdl, q⟩ := h
    have hu := hu_of hr
    refine ⟨_, pss_cons (ps_set (i := 2) scAp.nd rfl (Or.inr rfl) (pe_lockR (pe_dc (own := [("key", 3)]) (g := gName 3) (tt := tYes) rfl scAp.nd (pi_keys (pv 0)) (blkOk_by (N := ["mapping", "deeds", "found", "key", "deed"]) (sc := defScope sAp) (by decide +kernel))
          (fun _ _ _ _ _ => pg_name (i := 3) scAp.nd rfl (Or.inl rfl)) (fun _ _ _ _ _ => pts_nil) (fun _ _ _ _ _ => pv 3)
          (fun _ _ _ _ _ => pe_call GC hr rfl C.m C.fn.kp C.b .nil pass0 (pa_cons (pe_dget hu (pv 0) (pv 3) (fun _ _ => rfl)) pa_nil)))))
      (pss_cons (ps_for PassesOwn.never rfl (pi_list (pv 1)) (pg_name (i := 4) scAp.nd rfl (Or.inr rfl))
        (pss_one (ps_if (pt_cmpR op_eq (pe_ix ix_tup (pv 4) pe_int (fun _ _ => rfl)) pe_str (nomark _))
          (pss_one (ps_dput hu (pv 2) (pe_ix ix_tup (pv 4) pe_int (fun _ _ => rfl)) (pe_call GC hr rfl C.m C.fn.kp C.b .nil pass0 (pa_cons (pe_ix ix_tup (pv 4) pe_int (fun _ _ => rfl)) pa_nil)) rfl))
          (pss_one (ps_set (i := 2) scAp.nd rfl (Or.inr rfl) (pe_lockR (pe_dc (own := [("key", 3)]) (g := gName 3) rfl scAp.nd (pi_keys (pv 2)) (blkOk_by (N := ["mapping", "deeds", "found", "key", "deed"]) (sc := defScope sAp) (by decide +kernel))
            (fun _ _ _ _ _ => pg_name (i := 3) scAp.nd rfl (Or.inl rfl)) (fun _ _ _ _ _ => pts_one (pt_cmpR op_ne (pv 3) (pe_ix (ix_tupK (K := K) rfl) (pv 4) pe_int (fun _ _ => rfl)) (nomark _))) (fun _ _ _ _ _ => pv 3)
            (fun _ _ _ _ _ => pe_dget hu (pv 2) (pv 3) (fun _ _ => rfl)))))))))
      (pss_one (ps_ret (pv 2)))), ?_⟩
    have hlen : ks.length = m.length := Paired.length hkv
    have hml := okm.len
    have nd := hkv.nodup okm.nd
    refine ⟨a, ks, hrd, fun od H1 h1 rs off => ?_⟩
    refine ⟨_, rfl, a, od, rfl, .inl ⟨ks, h1, fun D hD => dc_gen (tk := tVar 3) gen_keys hD (fun H s' => s' _ _ h1)
        (fun i G y => ∀ x, m[i]? = some x → IsD (fr H G) 1 y x.2) (fun _ => true) (fun i G G' y s' e x hx => (e x hx).mono s'.fr) (by omega) (keyAt ks) (keyAt_apart nd) ?_ ?_⟩⟩
    · rintro i x H2 acc Nx hi ⟨k, u, e1, rfl⟩ s2 hacc _ nx
      refine ⟨rfl, ifT (B := Nx H2) rfl ?_⟩
      obtain ⟨j, y, e2, rfl, hu'⟩ := hkv.get e1
      have hd2 : Rd H2 a (.dK ks) := .inr ⟨od, s2 _ _ h1⟩
      refine ⟨_, rfl, _, rfl, _, rfl, a, u, rfl, .inl ⟨ks, .inr j, hd2, rfl, (valV_get nd e1).symm⟩, ?_⟩
      refine ⟨u, y, rfl, hu'.mono (rs.trans (rdS_of s2)), okm.val (j, y) (List.mem_of_getElem? e2), fun H3 v' s3 hv' => ?_⟩
      obtain ⟨kvs, k, ek, hD3, hlk, hN⟩ := nx v' H3 s3 rfl (fun x hx => by
        rw [e2] at hx; cases hx
        exact hv'.mono (rdS_of (fr_dm ((dm_off h1 off).trans (dm_same s2)) hacc)))
      rw [keyAt_eq e1] at ek
      exact ⟨kvs, k, ek, hD3, hlk, hN⟩
    intro H2 kvs s2 hD2 out
    refine ⟨s2 _ _ h1, fun H3 sb rs2 off2 => ?_⟩
    have hDn : H D = none := dm_off h1 off D hD
    have hDa : D ≠ a := fun z => by rw [z, h1] at hD; cases hD
    have hD3 : H3 D = some (.dK kvs) := by rw [off2 D hDa]; exact hD2
    have hk3 : KvD (hid D (fr H H3)) 1 kvs m := by
      have h := kv_out (P := fun _ => true) hlen.symm hkv.keyAt (fun _ _ _ => rfl) out
      rw [filter_true] at h
      refine KvD.mono ?_ h
      rw [fr_hid_comm]
      exact rs2.fr.hid
    have sH := sb s2
    refine ⟨_, rfl, p, rfl, ⟨_, SqL.of (sH _ _ hp)⟩, for_list (xs := ts.map V.ref) (fun i σ H3 => Same H H3 ∧ ∃ r ks3 b c, σ = [some (.ref a), some (.ref p), some (.ref r), b, c] ∧ H r = none ∧ H3 r = some (.dK ks3) ∧ KvD (hid r (fr H H3)) 1 ks3 (doneM m (ds.take i)))
      ⟨sH, D, kvs, _, _, rfl, hDn, hD3, hk3⟩ (fun i σ H3 _ h => SqL.of (h.1 _ _ hp)) ?_ ?_⟩
    · clear hDn hD3 hk3 hD2 out off2 rs2 sb s2 hD hDa sH
      rintro i x σ H3 hx ⟨sH, r, ks3, b, c, rfl, hrn, hr3, hk3⟩
      obtain ⟨t, ht, rfl⟩ : ∃ t, ts[i]? = some t ∧ x = .ref t := by
        rw [List.getElem?_map] at hx
        cases e : ts[i]? with
        | none => rw [e] at hx; cases hx
        | some t => rw [e] at hx; exact ⟨t, rfl, (Option.some.inj hx).symm⟩
      obtain ⟨dd, hdd, hdat⟩ := paired_get hds ht
      have hdat3 := hdat.mono (rdS_of sH)
      have hln := len_done (ds.take i) m
      have hlt : (ds.take i).length ≤ ds.length := by rw [List.length_take]; omega
      have hkl : ks3.length ≤ 140 := by
        have := Paired.length hk3
        omega
      cases dd with
      | put k y =>
        obtain ⟨v, htup, hv, hgv, hok⟩ := hdat3
        refine ⟨_, rfl, t, _, _, _, rfl, rfl, SqT.of htup, atI_nat (j := 0) rfl, rfl, _, rfl, ?_⟩
        refine ifT (decide_eq_true rfl) ?_
        refine ⟨_, rfl, t, _, _, _, rfl, rfl, SqT.of htup, atI_nat (j := 2) rfl, v, y, rfl, hv, hgv, fun H4 v' s4 hv' => ?_⟩
        refine ⟨_, rfl, _, rfl, t, _, _, _, rfl, rfl, SqT.of (s4 _ _ htup), atI_nat (j := 1) rfl, r, _, rfl, .inl ⟨ks3, .inr k, s4 _ _ hr3, rfl, lt_line (by omega), rfl⟩, ?_⟩
        refine ⟨fun b o e => by rw [upd_ne (ne_of_none e hrn)]; exact s4 b o (sH b o e), r, _, _, _, rfl, hrn, upd_same, ?_⟩
        rw [hid_fr_upd, done_take hdd]
        refine KvD.put (hk3.mono (rdS_of s4).fr.hid) ?_
        rw [← fr_hid_comm]
        exact hv'.mono (rdS_of (fr_dm (dm_same sH) hr3))
      | drop k =>
        obtain ⟨htup, hok⟩ := hdat3
        refine ⟨_, rfl, t, _, _, _, rfl, rfl, SqT.of htup, atI_nat (j := 0) rfl, rfl, _, rfl, ?_⟩
        refine ifF (decide_eq_false (by decide +kernel)) ?_
        have ndm := nd_done (ds.take i) okm.nd
        have nd3 := hk3.nodup ndm
        have hl3 : ks3.length = (doneM m (ds.take i)).length := Paired.length hk3
        refine ⟨r, ks3, .inl hr3, fun od H4 h4 rs4 off4 => ?_⟩
        have ht4 : H4 t = some (.tup [.str "drop", .str k]) := rs4.tup _ _ htup
        refine ⟨_, rfl, r, od, rfl, .inl ⟨ks3, h4, fun D hD => dc_gen (tk := tVar 3) gen_keys hD (fun H s' => s' _ _ h4)
          (fun i' G y => ∀ x, (doneM m (ds.take i))[i']? = some x → IsD (hid r (fr H G)) 1 y x.2) (fun i' => decide (keyAt ks3 i' ≠ .inr k)) (fun i G G' y s' e x hx => (e x hx).mono s'.fr.hid) (by omega) (keyAt ks3) (keyAt_apart nd3) ?_ ?_⟩⟩
        · rintro i' x H5 acc Nx hi ⟨k1, u, e1, rfl⟩ s5 hacc nx0 nx1
          obtain ⟨j, y, e2, rfl, hu'⟩ := hk3.get e1
          refine ⟨rfl, ?_⟩
          refine ⟨_, rfl, _, rfl, t, _, _, _, rfl, rfl, SqT.of (s5 _ _ ht4), atI_nat (j := 1) rfl, rfl, _, rfl, ?_⟩
          by_cases hjk : j = k
          · refine ifF ?_ (nx0 H5 (fun _ _ z => z) ?_)
            · subst hjk
              simp [kV]
            · rw [keyAt_eq e1, hjk]
              simp
          · have hd5 : Rd H5 r (.dK ks3) := .inr ⟨od, s5 _ _ h4⟩
            refine ifT ?_ ?_
            · simp [kV, hjk]
            refine ⟨_, rfl, _, rfl, _, rfl, r, u, rfl, .inl ⟨ks3, .inr j, hd5, rfl, (valV_get nd3 e1).symm⟩, ?_⟩
            obtain ⟨kvs, k2, ek, hD3, hlk, hN⟩ := nx1 u H5 (fun _ _ z => z) (by rw [keyAt_eq e1]; simp [hjk]) (fun x hx => by
              rw [e2] at hx; cases hx
              exact hu'.mono (rdS_of (keep_lock off4 s5 hD)))
            rw [keyAt_eq e1] at ek
            exact ⟨kvs, k2, ek, hD3, hlk, hN⟩
        intro H5 kvs' s5 hD5 out
        refine ⟨s5 _ _ h4, fun H6 sb rs6 off6 => ?_⟩
        have hDr : D ≠ r := fun z => by rw [z, h4] at hD; cases hD
        have hD3 : H3 D = none := by rw [← off4 D hDr]; exact hD
        refine ⟨sH.trans (sb s5), D, kvs', _, _, rfl, sH.free hD3, by rw [off6 D hDr]; exact hD5, ?_⟩
        rw [done_take hdd]
        have h := kv_out (P := fun p => decide (p.1 ≠ k)) hl3.symm hk3.keyAt (fun i' x hx => by
          show decide (keyAt ks3 i' ≠ .inr k) = _
          rw [hk3.keyAt i' x hx]
          simp) out
        exact KvD.mono (rdS_of (keep_unlock off6)) h
    · rintro σ H4 ⟨s4, r, ks3, b, c, rfl, hrn, hr4, hk4⟩
      have e : ts.length = ds.length := Paired.length hds
      rw [List.length_map, e, List.take_length] at hk4
      refine ⟨_, rfl, q H4 r s4 ⟨ks3, .inl (by rw [fr_new hrn]; exact hr4), hk4.mono (rdS_of hid_sub)⟩⟩
end
end Mw

end

section
set_option Elab.async false
set_option linter.all false
set_option maxRecDepth 100000
set_option maxHeartbeats 4000000
/-! {**a, **b, **c}. -/
namespace Mw
open PySem PySem.Spec PyProof.Rows L2
section
variable {prog : Program} {w : World} {K : Type} [DecidableEq K] {knd : KeyKind prog w K} {A : Around} {E : Value → Shared → Prop} {s : Shared}
theorem dictPut_pairs {d : Addr} {kvs : List (K × Value)} {k : K} {key v : Value} {Q : Unit → Shared → Prop} (hkey : knd.is k key = true) (hm : s.heap.DictOf knd d kvs)
    (hQ : ∀ h', h'.DictOf knd d (stored kvs k v) → Heap.SameBut d s.heap h' → Q () { s with heap := h' })
    (hsz : kvs.length ≤ sizeLine) :
    wpAny (model prog w) A (dictPut d (knd.hash k) key v) Q E s := by
  obtain ⟨o, es, ep, ho, hc, hd, hk, hp, hn⟩ := hm
  have hes : es.size ≤ sizeLine := by have e1 := hp.length; have e2 : es.toList.length = es.size := by simp
                                      omega
  unfold dictPut
  refine wpAny_bind (wpAny_dictFind_of hkey ho hd hk ?_)
  have hidx : (es.findIdx? fun e => knd.is k e.key) = kvs.findIdx? fun kv => decide (kv.1 = k) := by
    rw [← hp.findIdx k]; obtain ⟨l⟩ := es; simp
  cases hi : es.findIdx? fun e => knd.is k e.key with
  | some i =>
    refine wpAny_updateDict ho hd (hQ _ ⟨_, _, ep, Heap.get?_update_self _ ho (Obj.isFreed_of_dict (Obj.data_mapDict hd _)),
      hc.mapDict _, Obj.data_mapDict hd _, hk.modify _ _, ?_, ?_⟩ (Heap.SameBut.update ..))
    · rw [stored, if_pos (any_of_findIdx_some (hidx ▸ hi))]
      have hl : (es.toList.findIdx? fun e => knd.is k e.key) = some i := by rw [← hi]; obtain ⟨l⟩ := es; simp
      have := hp.modify hn hl v
      obtain ⟨l⟩ := es
      simpa using this
    · rw [stored, if_pos (any_of_findIdx_some (hidx ▸ hi)), keys_map_store]; exact hn
  | none =>
    have hnot : k ∉ kvs.map (·.1) := not_mem_of_findIdx_none (hidx ▸ hi)
    have hany : ¬ (kvs.any fun kv => decide (kv.1 = k)) = true := by
      rw [List.any_eq_true]; rintro ⟨kv, hkv, he⟩
      exact hnot (List.mem_map.mpr ⟨kv, hkv, of_decide_eq_true he⟩)
    refine wpAny_updateDictKeys (hz := hes) ho hd (hQ _ ⟨_, _, ep + 1, Heap.get?_update_self _ ho (Obj.isFreed_of_dict (Obj.data_mapDictKeys hd _)),
      hc.mapDictKeys _, Obj.data_mapDictKeys hd _, hk.push hkey _, ?_, ?_⟩ (Heap.SameBut.update ..))
    · rw [stored, if_neg hany]
      have := hp.append hkey (knd.hash k) v
      obtain ⟨l⟩ := es
      simpa using this
    · rw [stored, if_neg hany, List.map_append, List.nodup_append]
      refine ⟨hn, by simp, ?_⟩
      intro a ha b hb
      simp only [List.map_cons, List.map_nil, List.mem_singleton] at hb
      subst hb
      exact fun e => hnot (e ▸ ha)
theorem mergeMapping_pairs {d o : Addr} {kvs more : List (K × Value)} {Q : Unit → Shared → Prop} (hdo : d ≠ o) (hoS : (o == sysModules) = false)
    (hd : s.heap.DictOf knd d kvs) (ho : s.heap.DictOf knd o more)
    (hQ : ∀ h', h'.DictOf knd d (merged kvs more) → Heap.SameBut d s.heap h' → Q () { s with heap := h' })
    (hsz : kvs.length + more.length ≤ sizeLine) :
    wpAny (model prog w) A (mergeMapping d (.ref o) false) Q E s := by
  obtain ⟨od, esd, epd, hod, hcd, hdd, hkd, hpd, hnd⟩ := id hd
  obtain ⟨oo, eso, epo, hoo, hco, hdo', hko, hpo, hno⟩ := id ho
  unfold mergeMapping
  refine wpAny_bind (wpAny_isInstance (U := "dict") (b := true) ho.typeIs isSubtype_dict_dict ?_)
  dsimp only
  rw [if_pos rfl]
  refine wpAny_bind (wpAny_specialOf ho.typeIs F.slot_dict_iter.lookup ?_)
  refine wpAny_bind (wpAny_pure ?_)
  have hlen : more.length = eso.size := by rw [← hpo.length]; simp
  have loop : wpAny (model prog w) A (do
      let l ← dictEntries o
      let epoch ← dictEpoch o
      forIn (List.range l.size) PUnit.unit fun i (_ : PUnit) => (do
          let l' ← dictEntries o
          match l'[i]? with
            | some e => do
              holding [e.key, e.val] (dictPut d e.hash e.key e.val)
              let ep' ← dictEpoch o
              if (ep' != epoch) = true then do
                  (unsupported "dict.changed-during-merge" : Sem PUnit)
                  pure (ForInStep.yield PUnit.unit)
                else pure (ForInStep.yield PUnit.unit)
            | _ => do
              (unsupported "dict.changed-during-merge" : Sem PUnit)
              pure (ForInStep.yield PUnit.unit) : Sem (ForInStep PUnit))
      pure ()) Q E s := by
    refine wpAny_bind (wpAny_dictEntries hoo hdo' ?_)
    refine wpAny_bind (wpAny_dictEpoch hoo hdo' ?_)
    refine wpAny_bind ?_
    rw [List.range_eq_range']
    refine wpAny_forIn_list _
      (fun rest _ s' => ∃ h' i, s' = { s with heap := h' } ∧ rest = List.range' i (eso.size - i) ∧ i ≤ eso.size ∧ h'.DictOf knd d (merged kvs (more.take i)) ∧ h'.get? o = some oo ∧ Heap.SameBut d s.heap h')
      _ ?_ ?_ _ _ ⟨s.heap, 0, rfl, by simp, Nat.zero_le _, by simpa [merged] using hd, hoo, Heap.SameBut.refl _ _⟩
    · rintro x rest b s' ⟨h', i, rfl, hr, hi, hd', hoo', hs'⟩
      have hlt : i < eso.size := by
        rcases Nat.lt_or_ge i eso.size with h | h
        · exact h
        · rw [Nat.sub_eq_zero_of_le h] at hr; simp at hr
      obtain ⟨rfl, hrest⟩ : x = i ∧ rest = List.range' (i + 1) (eso.size - (i + 1)) := by
        have e : eso.size - i = (eso.size - (i + 1)) + 1 := by omega
        rw [e, List.range'_succ] at hr
        injection hr with h1 h2
        exact ⟨h1, h2⟩
      refine wpAny_bind (wpAny_dictEntries hoo' hdo' ?_)
      rw [Array.getElem?_eq_getElem hlt]
      obtain ⟨kv, hkv⟩ : ∃ kv, more[x]? = some kv := ⟨more[x]'(by rw [hlen]; exact hlt), List.getElem?_eq_getElem _⟩
      obtain ⟨k, v⟩ := kv
      obtain ⟨hkey, hval⟩ := hpo.get? (e := eso[x]) (by simp [hlt]) hkv
      obtain ⟨k', hkey', hhash⟩ := hko eso[x] (Array.getElem_mem hlt)
      obtain rfl : k' = k := knd.inj _ _ _ hkey' hkey
      show wpAny _ _ (holding [eso[x].key, eso[x].val] (dictPut d eso[x].hash eso[x].key eso[x].val) >>= _) _ _ _
      rw [hhash, hval]
      have hmx : (merged kvs (more.take x)).length ≤ sizeLine := by
        have e1 := merged_length_le kvs (more.take x)
        have e2 : (more.take x).length ≤ more.length := by rw [List.length_take]; omega
        omega
      refine wpAny_bind (wpAny_holding (dictPut_pairs (hsz := hmx) hkey hd' fun h'' hd'' hs'' => ?_))
      have hoo'' : h''.get? o = some oo := (hs''.2 o (Ne.symm hdo)).trans hoo'
      refine wpAny_bind (wpAny_dictEpoch hoo'' hdo' ?_)
      rw [if_neg (by simp)]
      exact wpAny_pure ⟨h'', x + 1, rfl, hrest, hlt, by rw [merged_take_succ kvs more x (k', v) hkv]; exact hd'', hoo'', hs'.trans hs''⟩
    · rintro b s' ⟨h', i, rfl, hr, hi, hd', hoo', hs'⟩
      have hin : i = eso.size := by
        rcases Nat.lt_or_ge i eso.size with h | h
        · have e : eso.size - i = (eso.size - (i + 1)) + 1 := by omega
          rw [e, List.range'_succ] at hr; exact nomatch hr
        · exact Nat.le_antisymm hi h
      refine wpAny_pure (hQ h' ?_ hs')
      rw [hin, ← hlen, List.take_length] at hd'; exact hd'
  show wpAny _ _ (ite ((o == sysModules) = true) _ _) _ _ s
  rw [if_neg (by rw [hoS]; exact Bool.false_ne_true)]
  refine wpAny_bind (wpAny_dictEntries hod hdd ?_)
  split
  · refine wpAny_bind (wpAny_dictEntries hoo hdo' ?_)
    refine wpAny_bind (wpAny_of_eq (a := PUnit.unit) ?_ loop)
    rw [← Array.forIn_toList]
    refine forIn_yield_id _ fun e he c => ?_
    obtain ⟨k, hkey, _⟩ := hko e (Array.mem_toList_iff.mp he)
    have hb := knd.byValue k _ hkey
    cases hkk : e.key <;> rw [hkk] at hb <;> first | rfl | cases hb
  · exact loop
end
section
variable {X : Cx} {pins : List (Addr × Obj)} {σ : L2.St} {H : Hp} {s : Shared}
theorem mm_step {A : Around} {E : Value → Shared → Prop} {Q : Unit → Shared → Prop} {p a : Addr} {k0 k1 : List (Key × V)} (I : Inv X pins σ H s) (hp : H p = some (.dK k0)) (ha : Rd H a (.dK k1)) (ne : p ≠ a) (hl : k0.length + k1.length ≤ sizeLine)
    (h : ∀ s', Inv X pins σ (upd H p (.dK (mergeK k0 k1))) s' → Q () s') : wpAny (model X.prog X.w) A (mergeMapping p (.ref a) false) Q E s := by
  obtain ⟨z0, hd0, vs0, r0, dd0⟩ := dk_of I.hok hp
  obtain ⟨z1, hd1, vs1, r1, dd1⟩ := dk_rd I.hok ha
  have l0 := r0.length
  have l1 := r1.length
  refine mergeMapping_pairs (hsz := by omega) ne hd1 dd0 dd1 fun h' dd' hs => h _ ?_
  have hz : (mergeK k0 k1).length ≤ sizeLine := by
    have h1 := length_mergeK k1 k0
    omega
  have he : ∃ q, h'.get? p = some q := let ⟨q, _, _, hq, _⟩ := dd'; ⟨q, hq⟩
  exact d_write I (by rw [hp]; exact True.intro) hs he (dk_new hz hd0 (r1.merge r0) dd')
def tStars3 (t1 t2 t3 : TE) : TE := fun σ H Q => ∀ p, H p = none → t1 σ (upd H p (.dK [])) fun x1 H1 => ∃ a1 k1, x1 = .ref a1 ∧ H1 p = some (.dK []) ∧ p ≠ a1 ∧ Rd H1 a1 (.dK k1) ∧ k1.length ≤ 1000 ∧
  t2 σ (upd H1 p (.dK (mergeK [] k1))) fun x2 H2 => ∃ a2 k2, x2 = .ref a2 ∧ H2 p = some (.dK (mergeK [] k1)) ∧ p ≠ a2 ∧ Rd H2 a2 (.dK k2) ∧ k2.length ≤ 1000 ∧
  t3 σ (upd H2 p (.dK (mergeK (mergeK [] k1) k2))) fun x3 H3 => ∃ a3 k3, x3 = .ref a3 ∧ H3 p = some (.dK (mergeK (mergeK [] k1) k2)) ∧ p ≠ a3 ∧ Rd H3 a3 (.dK k3) ∧ k3.length ≤ 1000 ∧
  Q (.ref p) (upd H3 p (.dK (mergeK (mergeK (mergeK [] k1) k2) k3)))
theorem pe_stars3 {e1 e2 e3 : Expr} {t1 t2 t3 : TE} {pos : Pos} (h1 : PE X e1 t1) (h2 : PE X e2 t2) (h3 : PE X e3 t3) : PE X (.Dict [none, none, none] [e1, e2, e3] pos) (tStars3 t1 t2 t3) := by
  refine ⟨fun pins s σ H Q I q => ?_⟩
  have hn := I.hok.fresh (Nat.le_refl s.heap.objs.size)
  have I1 := I.laid (a := s.heap.objs.size) (o := .dK []) (h' := s.heap.push { cls := .type "dict", data := .dict #[] }) (t' := s.toks) (fun _ _ q => Heap.get?_push_of_some _ q) (Nat.le_refl _) (dk_empty s.heap I.big)
  rw [arm_eval_Dict]
  refine wpAny_bind (wpAny_standAt ?_)
  show wpAny _ _ (dictDisplay [(none, do let x ← eval e1 X.env; standAt pos; pure x), (none, do let x ← eval e2 X.env; standAt pos; pure x), (none, do let x ← eval e3 X.env; standAt pos; pure x)]) _ _ _
  unfold dictDisplay
  simp only [List.forIn_cons, List.forIn_nil, List.isEmpty_nil, if_true]
  refine wpAny_bind (wpAny_bind (wpAny_bind (wpAny_pure ?_)))
  refine wpAny_bind (wpAny_alloc ?_)
  refine wpAny_bind (wpAny_holding (wpAny_bind (thn (h1.run pins _ σ _ _ I1 (q _ hn)) fun v1 s1 ⟨x1, H1, J1, r1, a1, k1, ex1, p1, n1, d1, l1, q1⟩ => wpAny_bind (wpAny_standAt (wpAny_pure ?_)))))
  have hbig := sizeLine_eq
  subst ex1
  obtain rfl : v1 = Value.ref a1 := r1
  refine wpAny_bind (wpAny_onRaise (wpAny_tryCatch (wpAny_onRaise (wpAny_holding (mm_step J1 p1 d1 n1 (by simp only [List.length_nil]; omega) fun s2 J2 => ?_)))))
  have m1 := length_mergeK k1 []
  refine wpAny_pure ?_
  refine wpAny_bind (wpAny_bind (wpAny_pure ?_))
  refine wpAny_bind (wpAny_pure ?_)
  refine wpAny_bind (wpAny_holding (wpAny_bind (thn (h2.run pins _ σ _ _ J2 q1) fun v2 s3 ⟨x2, H2, J3, r2, a2, k2, ex2, p2, n2, d2, l2, q2⟩ => wpAny_bind (wpAny_standAt (wpAny_pure ?_)))))
  subst ex2
  obtain rfl : v2 = Value.ref a2 := r2
  refine wpAny_bind (wpAny_onRaise (wpAny_tryCatch (wpAny_onRaise (wpAny_holding (mm_step J3 p2 d2 n2 (by simp only [List.length_nil] at m1; omega) fun s4 J4 => ?_)))))
  have m2 := length_mergeK k2 (mergeK [] k1)
  refine wpAny_pure ?_
  refine wpAny_bind (wpAny_bind (wpAny_pure ?_))
  refine wpAny_bind (wpAny_pure ?_)
  refine wpAny_bind (wpAny_holding (wpAny_bind (thn (h3.run pins _ σ _ _ J4 q2) fun v3 s5 ⟨x3, H3, J5, r3, a3, k3, ex3, p3, n3, d3, l3, q3⟩ => wpAny_bind (wpAny_standAt (wpAny_pure ?_)))))
  subst ex3
  obtain rfl : v3 = Value.ref a3 := r3
  refine wpAny_bind (wpAny_onRaise (wpAny_tryCatch (wpAny_onRaise (wpAny_holding (mm_step J5 p3 d3 n3 (by simp only [List.length_nil] at m1; omega) fun s6 J6 => ?_)))))
  refine wpAny_pure ?_
  refine wpAny_pure ?_
  refine wpAny_bind (wpAny_pure ?_)
  exact wpAny_pure ⟨.ref s.heap.objs.size, _, J6, rfl, q3⟩
end
end Mw

end

section
set_option Elab.async false
set_option linter.all false
set_option maxRecDepth 100000
set_option maxHeartbeats 4000000
/-! has_changed, are_one_change. -/
namespace Mw
open PySem PySem.Spec PyProof.Rows L2
theorem OkM.mono {n n' : Nat} {m : Mp} (h : OkM n m) (l : n ≤ n') : OkM n' m := ⟨h.nd, Nat.le_trans h.len l, h.key, h.val⟩
/-- a key looked up in a mapping -/
theorem MapAt.get {H : Hp} {a : Addr} {m : Mp} (h : MapAt H a m) (k : Str) : ∃ o, DGet H a (.str k) o ∧ o.isSome = (lk m k).isSome ∧ ∀ v, o = some v → ∃ x, lk m k = some x ∧ IsD H 1 v x := by
  obtain ⟨ks, hr, hp⟩ := h
  refine ⟨valV ks (.inr k), .inl ⟨ks, .inr k, hr, rfl, rfl⟩, ?_⟩
  rcases hp.look k with ⟨e1, e2⟩ | ⟨x, v, e1, e2, hv⟩
  · rw [e1, e2]
    exact ⟨rfl, fun v e => by cases e⟩
  · rw [e1, e2]
    exact ⟨rfl, fun v' e => by cases e; exact ⟨x, rfl, hv⟩⟩
abbrev sHC : Stmt := top 28
theorem scHC : FnScope ["base", "one", "key"] ["base", "one", "key"] (defScope sHC) := ⟨rfl, rfl, rfl, by decide +kernel, rfl, by decide +kernel, by decide +kernel⟩
def spHC : Sp := fun vs H Q _ => ∃ (a b : Addr) (m m' : Mp) (k : Str), vs = [.ref a, .ref b, .str k] ∧ MapAt H a m ∧ MapAt H b m' ∧ OkM 40 m ∧ OkM 40 m' ∧ ∀ H', Same H H' → Q (.bl (ch m m' k)) H'
abbrev sOC : Stmt := top 29
theorem scOC : FnScope ["one", "other", "key"] ["one", "other", "key"] (defScope sOC) := ⟨rfl, rfl, rfl, by decide +kernel, rfl, by decide +kernel, by decide +kernel⟩
def spOC : Sp := fun vs H Q _ => ∃ (a b : Addr) (m m' : Mp) (k : Str), vs = [.ref a, .ref b, .str k] ∧ MapAt H a m ∧ MapAt H b m' ∧ OkM 40 m ∧ OkM 40 m' ∧ ∀ H', Same H H' → Q (.bl (eqD (lk m k) (lk m' k))) H'
section
variable {P : Program} {w : World} {K : PySem.W.Frag} {mg : Str → Option Value} {base : Heap} {f fv fc : Addr} {fd fvd : FuncData}
theorem ok_hc (F : Df K mg "has_changed" sHC ["base", "one", "key"] f fd) (V' : Df K mg "are_alike" sAA ["one", "other"] fv fvd) (GV : FnOk P w K mg base CX0 5 fv fvd ["one", "other"] spAA) :
    FnOk P w K mg base CX0 6 f fd ["base", "one", "key"] spHC := by
  refine F.fn.ok scHC (fun vs H Q E h => ?_) (fun cdv A outer s H vs Q E hr h => ?_)
  · obtain ⟨a, b, m, m', k, rfl, _⟩ := h
    rfl
  · obtain ⟨a, b, m, m', k, rfl, ha, hb, oa, ob, q⟩ := h
    have hu := hu_of hr
    refine ⟨_, pss_cons (ps_if (PW.pt (pw_and (pt_cmp (pc_din hu (pv 2) (pv 0))) (pw_and1 (pt_cmp (pc_din hu (pv 2) (pv 1))))))
        (pss_one (ps_ret (pe_not (pe_call GV hr rfl V'.m V'.fn.kp V'.b .nil pass0 (pa_cons (pe_dget hu (pv 0) (pv 2) (fun _ _ => rfl)) (pa_cons (pe_dget hu (pv 1) (pv 2) (fun _ _ => rfl)) pa_nil)))))) pss_nil)
      (pss_one (ps_ret (pe_or (pe_cmp (pc_din hu (pv 2) (pv 0)) rfl) (pe_one (pe_cmp (pc_din hu (pv 2) (pv 1)) rfl))))), ?_⟩
    obtain ⟨o1, g1, i1, v1⟩ := ha.get k
    obtain ⟨o2, g2, i2, v2⟩ := hb.get k
    refine ⟨_, rfl, _, rfl, a, o1, rfl, g1, _, rfl, ?_⟩
    have q0 := q H fun _ _ z => z
    cases o1 with
    | none =>
      have e1 : lk m k = none := Option.not_isSome_iff_eq_none.mp (by rw [← i1]; exact Bool.false_ne_true)
      refine iteF (iteF ?_)
      refine ⟨_, rfl, _, rfl, a, none, rfl, g1, _, rfl, iteF ?_⟩
      refine ⟨_, rfl, _, rfl, b, o2, rfl, g2, qb ?_ q0⟩
      rw [i2]
      unfold ch
      rw [e1]
      cases e2 : lk m' k with
      | none => rw [eqD_self]; rfl
      | some x => rw [eqD_not.mpr (fun z => by cases z)]; rfl
    | some u1 =>
      obtain ⟨x1, e1, d1⟩ := v1 u1 rfl
      refine iteT ?_
      refine ⟨_, rfl, _, rfl, b, o2, rfl, g2, _, rfl, ?_⟩
      cases o2 with
      | none =>
        have e2 : lk m' k = none := Option.not_isSome_iff_eq_none.mp (by rw [← i2]; exact Bool.false_ne_true)
        refine iteF ?_
        refine ⟨_, rfl, _, rfl, a, some u1, rfl, g1, _, rfl, iteT (qb ?_ q0)⟩
        unfold ch
        rw [e1, e2, eqD_not.mpr (fun z => by cases z)]
        rfl
      | some u2 =>
        obtain ⟨x2, e2, d2⟩ := v2 u2 rfl
        refine iteT ?_
        refine ⟨_, rfl, _, rfl, a, u1, rfl, g1, _, rfl, _, rfl, b, u2, rfl, g2, u1, u2, x1, x2, rfl, d1.up, d2.up, gd_up (oa.lk e1).2, gd_up (ob.lk e2).2, fun H1 s1 => ⟨_, rfl, qb ?_ (q H1 s1)⟩⟩
        unfold ch
        rw [e1, e2]
theorem ok_oc (F : Df K mg "are_one_change" sOC ["one", "other", "key"] f fd) (V' : Df K mg "are_alike" sAA ["one", "other"] fv fvd) (GV : FnOk P w K mg base CX0 5 fv fvd ["one", "other"] spAA) :
    FnOk P w K mg base CX0 6 f fd ["one", "other", "key"] spOC := by
  refine F.fn.ok scOC (fun vs H Q E h => ?_) (fun cdv A outer s H vs Q E hr h => ?_)
  · obtain ⟨a, b, m, m', k, rfl, _⟩ := h
    rfl
  · obtain ⟨a, b, m, m', k, rfl, ha, hb, oa, ob, q⟩ := h
    have hu := hu_of hr
    refine ⟨_, pss_cons (ps_if (PW.pt (pw_and (pt_cmp (pc_din hu (pv 2) (pv 0))) (pw_and1 (pt_cmp (pc_din hu (pv 2) (pv 1))))))
        (pss_one (ps_ret (pe_call GV hr rfl V'.m V'.fn.kp V'.b .nil pass0 (pa_cons (pe_dget hu (pv 0) (pv 2) (fun _ _ => rfl)) (pa_cons (pe_dget hu (pv 1) (pv 2) (fun _ _ => rfl)) pa_nil))))) pss_nil)
      (pss_one (ps_ret (pe_and (pe_cmp (pc_dnotin hu (pv 2) (pv 0)) rfl) (pe_one (pe_cmp (pc_dnotin hu (pv 2) (pv 1)) rfl))))), ?_⟩
    obtain ⟨o1, g1, i1, v1⟩ := ha.get k
    obtain ⟨o2, g2, i2, v2⟩ := hb.get k
    refine ⟨_, rfl, _, rfl, a, o1, rfl, g1, _, rfl, ?_⟩
    have q0 := q H fun _ _ z => z
    cases o1 with
    | none =>
      have e1 : lk m k = none := Option.not_isSome_iff_eq_none.mp (by rw [← i1]; exact Bool.false_ne_true)
      refine iteF (iteF ?_)
      refine ⟨_, rfl, _, rfl, a, none, rfl, g1, _, rfl, iteT ?_⟩
      refine ⟨_, rfl, _, rfl, b, o2, rfl, g2, qb ?_ q0⟩
      rw [i2, e1]
      cases e2 : lk m' k with
      | none => rw [eqD_self]; rfl
      | some x => rw [eqD_not.mpr (fun z => by cases z)]; rfl
    | some u1 =>
      obtain ⟨x1, e1, d1⟩ := v1 u1 rfl
      refine iteT ?_
      refine ⟨_, rfl, _, rfl, b, o2, rfl, g2, _, rfl, ?_⟩
      cases o2 with
      | none =>
        have e2 : lk m' k = none := Option.not_isSome_iff_eq_none.mp (by rw [← i2]; exact Bool.false_ne_true)
        refine iteF ?_
        refine ⟨_, rfl, _, rfl, a, some u1, rfl, g1, _, rfl, iteF (qb ?_ q0)⟩
        rw [e1, e2, eqD_not.mpr (fun z => by cases z)]
      | some u2 =>
        obtain ⟨x2, e2, d2⟩ := v2 u2 rfl
        refine iteT ?_
        refine ⟨_, rfl, _, rfl, a, u1, rfl, g1, _, rfl, _, rfl, b, u2, rfl, g2, u1, u2, x1, x2, rfl, d1.up, d2.up, gd_up (oa.lk e1).2, gd_up (ob.lk e2).2, fun H1 s1 => qb ?_ (q H1 s1)⟩
        rw [e1, e2]
end
end Mw

end

section
set_option Elab.async false
set_option linter.all false
set_option maxRecDepth 100000
set_option maxHeartbeats 4000000
/-! all_conflicts. -/
namespace Mw
open PySem PySem.Spec PyProof.Rows L2
theorem pairwise_of_sorted : ∀ {l : List Str}, sortedS l = true → l.Pairwise (fun a b => ltCps b.cps.toList a.cps.toList = false)
  | [], _ => .nil
  | x :: r, h => by
    refine List.pairwise_cons.mpr ⟨fun y hy => ?_, pairwise_of_sorted (sorted_tail h)⟩
    have h1 := rising_le h y hy
    rw [PyProof.Rows.ltCps_eq]
    exact decide_eq_false h1
theorem sorted_filter {l : List Str} (P : Str → Bool) (h : sortedS l = true) : sortedS (l.filter P) = true :=
  sortedS_of_pairwise _ (List.Pairwise.sublist List.filter_sublist (pairwise_of_sorted h))
theorem rd_ne {H : Hp} {p a : Addr} {u : HO} (hp : H p = none) (h : Rd H a u) : p ≠ a := fun z => by
  subst z
  rcases h with h | ⟨o, h⟩ <;> rw [hp] at h <;> cases h
theorem putK_keys {kvs : List (Key × V)} {as : List Str} (h : kvs.map (·.1) = as.map Sum.inr) (k : Str) (v : V) : (putK kvs (.inr k) v).map (·.1) = (if k ∈ as then as else as ++ [k]).map Sum.inr := by
  unfold putK
  have e : (kvs.any fun kv => decide (kv.1 = (.inr k : Key))) = decide (k ∈ as) := by
    rw [Bool.eq_iff_iff, List.any_eq_true, decide_eq_true_iff]
    constructor
    · rintro ⟨p, hp, e⟩
      have hm : p.1 ∈ kvs.map (·.1) := List.mem_map_of_mem hp
      rw [h] at hm
      obtain ⟨j, hj, e2⟩ := List.mem_map.mp hm
      have e3 : p.1 = .inr k := of_decide_eq_true e
      rw [e3] at e2
      rw [← Sum.inr.inj e2]
      exact hj
    · intro hk
      have hm : (.inr k : Key) ∈ kvs.map (·.1) := by rw [h]; exact List.mem_map_of_mem hk
      obtain ⟨p, hp, e⟩ := List.mem_map.mp hm
      exact ⟨p, hp, decide_eq_true e⟩
  rw [e]
  by_cases hk : k ∈ as
  · rw [if_pos (decide_eq_true hk), if_pos hk, List.map_map, ← h]
    refine List.map_congr_left fun p _ => ?_
    show (if p.1 = .inr k then (p.1, v) else p).1 = p.1
    split <;> rfl
  · rw [if_neg (by rw [decide_eq_false hk]; exact Bool.false_ne_true), if_neg hk, List.map_append, List.map_append, h]
    rfl
theorem mergeK_keys : ∀ {more acc : List (Key × V)} {as ms : List Str}, acc.map (·.1) = as.map Sum.inr → as.Nodup → more.map (·.1) = ms.map Sum.inr → ∃ rs : List Str, (mergeK acc more).map (·.1) = rs.map Sum.inr ∧ rs.Nodup ∧ (∀ k, k ∈ rs ↔ k ∈ as ∨ k ∈ ms) ∧ rs.length ≤ as.length + ms.length
  | [], acc, as, ms, h, nd, hm => by
    cases ms with
    | nil => exact ⟨as, h, nd, fun k => by simp, by simp⟩
    | cons _ _ => cases hm
  | p :: r, acc, as, ms, h, nd, hm => by
    cases ms with
    | nil => cases hm
    | cons k ms =>
      have hp : p.1 = .inr k := (List.cons.inj hm).1
      have hr : r.map (·.1) = ms.map Sum.inr := (List.cons.inj hm).2
      have h1 := putK_keys h k p.2
      rw [← hp] at h1
      have nd1 : (if k ∈ as then as else as ++ [k]).Nodup := by
        split
        · exact nd
        · rename_i hk
          rw [List.nodup_append]
          exact ⟨nd, by simp, fun a ha b hb => by rw [List.mem_singleton] at hb; subst hb; exact fun e => hk (e ▸ ha)⟩
      obtain ⟨rs, e1, e2, e3, e4⟩ := mergeK_keys (more := r) (acc := putK acc p.1 p.2) (ms := ms) h1 nd1 hr
      refine ⟨rs, e1, e2, fun j => ?_, ?_⟩
      · rw [e3, List.mem_cons]
        by_cases hk : k ∈ as
        · rw [if_pos hk]
          constructor
          · rintro (q | q)
            · exact .inl q
            · exact .inr (.inr q)
          · rintro (q | q | q)
            · exact .inl q
            · exact .inl (q ▸ hk)
            · exact .inr q
        · rw [if_neg hk, List.mem_append, List.mem_singleton, or_assoc]
      · have : (if k ∈ as then as else as ++ [k]).length ≤ as.length + 1 := by
          split
          · omega
          · simp
        rw [List.length_cons]
        omega
/-- the keys in conflict, sorted -/
structure IsCf (base one other : Mp) (ks : List Str) : Prop where
  sorted : sortedS ks = true
  nd : ks.Nodup
  mem : ∀ k, k ∈ ks ↔ cf base one other k = true
theorem IsCf.uniq {base one other : Mp} {ks ks' : List Str} (h : IsCf base one other ks) (h' : IsCf base one other ks') : ks = ks' := sorted_uniq h.sorted h'.sorted h.nd h'.nd fun k => (h.mem k).trans (h'.mem k).symm
theorem IsCf.comm {base one other : Mp} {ks : List Str} (h : IsCf base one other ks) : IsCf base other one ks := ⟨h.sorted, h.nd, fun k => by rw [h.mem, cf_comm]⟩
theorem cf_keys {base one other : Mp} {k : Str} (h : cf base one other k = true) : k ∈ keys base ∨ k ∈ keys one ∨ k ∈ keys other := by
  unfold cf at h
  rw [Bool.and_eq_true, ch_true] at h
  by_cases h1 : k ∈ keys base
  · exact .inl h1
  · refine .inr (.inl ?_)
    rw [← lk_mem]
    have e := lk_none.mpr h1
    rw [e] at h
    cases e2 : lk one k with
    | none => exact absurd e2.symm h.1
    | some x => rfl
/-- from the sorted union of the keys -/
theorem isCf_of {base one other : Mp} {ys : List Str} (hs : sortedS ys = true) (nd : ys.Nodup) (hm : ∀ k, k ∈ ys ↔ k ∈ keys base ∨ k ∈ keys one ∨ k ∈ keys other) : IsCf base one other (ys.filter (cf base one other)) where
  sorted := sorted_filter _ hs
  nd := List.Pairwise.sublist List.filter_sublist nd
  mem := fun k => by
    rw [List.mem_filter, hm]
    exact ⟨fun h => h.2, fun h => ⟨cf_keys h, h⟩⟩
theorem rd_upd {H : Hp} {p a : Addr} {o u : HO} (h : Rd H a u) (ne : p ≠ a) : Rd (upd H p o) a u := by
  rcases h with h | ⟨x, h⟩
  · exact .inl (by rw [upd_ne (Ne.symm ne)]; exact h)
  · exact .inr ⟨x, by rw [upd_ne (Ne.symm ne)]; exact h⟩
theorem take_filter {α : Type} {l : List α} {i : Nat} {x : α} (P : α → Bool) (e : l[i]? = some x) : (l.take (i + 1)).filter P = if P x = true then (l.take i).filter P ++ [x] else (l.take i).filter P := by
  rw [take_succ e, List.filter_append]
  cases h : P x with
  | true => rw [List.filter_cons_of_pos h, List.filter_nil, if_pos rfl]
  | false => rw [List.filter_cons_of_neg (by rw [h]; exact Bool.false_ne_true), List.filter_nil, List.append_nil, if_neg Bool.false_ne_true]
theorem map_at {α β : Type} {f : α → β} {l : List α} {i : Nat} {y : β} (h : (l.map f)[i]? = some y) : ∃ x, l[i]? = some x ∧ y = f x := by
  rw [List.getElem?_map] at h
  cases e : l[i]? with
  | none => rw [e] at h; cases h
  | some t => rw [e] at h; exact ⟨t, rfl, (Option.some.inj h).symm⟩
abbrev sAC : Stmt := top 30
theorem scAC : FnScope ["base", "one", "other", "found", "key"] ["base", "one", "other"] (defScope sAC) := ⟨rfl, rfl, rfl, by decide +kernel, rfl, by decide +kernel, by decide +kernel⟩
def spAC : Sp := fun vs H Q _ => ∃ (a b c : Addr) (m1 m2 m3 : Mp), vs = [.ref a, .ref b, .ref c] ∧ MapAt H a m1 ∧ MapAt H b m2 ∧ MapAt H c m3 ∧ OkM 12 m1 ∧ OkM 12 m2 ∧ OkM 12 m3 ∧
  ∀ H' p ks, Same H H' → H p = none → H' p = some (.lst (ks.map V.str)) → IsCf m1 m2 m3 ks → ks.length ≤ 40 → Q (.ref p) H'
section
variable {P : Program} {w : World} {K : PySem.W.Frag} {mg : Str → Option Value} {base : Heap} {f fh fo : Addr} {fd fhd fod : FuncData}
theorem ok_ac (F : Df K mg "all_conflicts" sAC ["base", "one", "other"] f fd) (B : Bi mg) (C : Df K mg "has_changed" sHC ["base", "one", "key"] fh fhd) (O : Df K mg "are_one_change" sOC ["one", "other", "key"] fo fod)
    (GC : FnOk P w K mg base CX0 6 fh fhd ["base", "one", "key"] spHC) (GO : FnOk P w K mg base CX0 6 fo fod ["one", "other", "key"] spOC) :
    FnOk P w K mg base CX0 7 f fd ["base", "one", "other"] spAC := by
  refine F.fn.ok scAC (fun vs H Q E h => ?_) (fun cdv A outer s H vs Q E hr h => ?_)
  · obtain ⟨a, b, c, m1, m2, m3, rfl, _⟩ := h
    rfl
  · obtain ⟨a, b, c, m1, m2, m3, rfl, ha, hb, hc, o1, o2, o3, q⟩ := h
    have hu := hu_of hr
    refine ⟨_, pss_cons (ps_set (i := 3) scAC.nd rfl (Or.inl rfl) (pe_lst pa_nil))
      (pss_cons (ps_for PassesOwn.never rfl (pi_list (pe_callB (call_sortedD rfl) (by rfl) B.sorted (by decide +kernel) (pa_cons (pe_stars3 (pv 0) (pv 1) (pv 2)) pa_nil))) (pg_name (i := 4) scAC.nd rfl (Or.inl rfl))
        (pss_one (ps_if (PW.pt (pw_and (pt_val (pe_call GC hr rfl C.m C.fn.kp C.b .nil pass0 (pa_cons (pv 0) (pa_cons (pv 1) (pa_cons (pv 4) pa_nil)))))
            (pw_and (pt_val (pe_call GC hr rfl C.m C.fn.kp C.b .nil pass0 (pa_cons (pv 0) (pa_cons (pv 2) (pa_cons (pv 4) pa_nil)))))
              (pw_and1 (pt_not (pt_val (pe_call GO hr rfl O.m O.fn.kp O.b .nil pass0 (pa_cons (pv 1) (pa_cons (pv 2) (pa_cons (pv 4) pa_nil))))))))))
          (pss_one (ps_expr (pe_bm PySem.F.plainAttrs_list PySem.F.slot_list_append PySem.F.type_list_append mt_append (pv 3) (pa_cons (pv 4) pa_nil)))) pss_nil)))
      (pss_one (ps_ret (pv 3)))), ?_⟩
    refine ⟨l0_line, fun F hF => ?_⟩
    have s1 : Same H (upd H F (.lst [])) := same_upd hF
    obtain ⟨k1, r1, d1⟩ := ha.mono (rdS_of s1)
    obtain ⟨k2, r2, d2⟩ := hb.mono (rdS_of s1)
    obtain ⟨k3, r3, d3⟩ := hc.mono (rdS_of s1)
    have l1 := o1.len
    have l2 := o2.len
    have l3 := o3.len
    have e1 : k1.length = m1.length := Paired.length d1
    have e2 : k2.length = m2.length := Paired.length d2
    have e3 : k3.length = m3.length := Paired.length d3
    obtain ⟨as1, z1, n1, i1, t1⟩ := mergeK_keys (acc := []) (as := []) rfl .nil d1.keys
    obtain ⟨as2, z2, n2, i2, t2⟩ := mergeK_keys z1 n1 d2.keys
    obtain ⟨as3, z3, n3, i3, t3⟩ := mergeK_keys z2 n2 d3.keys
    have lk1 : (Mw.keys m1).length = m1.length := List.length_map _
    have lk2 : (Mw.keys m2).length = m2.length := List.length_map _
    have lk3 : (Mw.keys m3).length = m3.length := List.length_map _
    have lnil : ([] : List Str).length = 0 := rfl
    have l64 : as3.length < 64 := by omega
    intro p hp
    have na := rd_ne hp r1
    have nb := rd_ne hp r2
    have nc := rd_ne hp r3
    refine ⟨_, rfl, a, k1, rfl, upd_same, na, rd_upd r1 na, by omega, _, rfl, b, k2, rfl, upd_same, nb, rd_upd (rd_upd r2 nb) nb, by omega,
      _, rfl, c, k3, rfl, upd_same, nc, rd_upd (rd_upd (rd_upd r3 nc) nc) nc, by omega, p, _, as3, rfl, .inl upd_same, z3, l64, fun ys l perm srt hl => ?_⟩
    have hys : IsCf m1 m2 m3 (ys.filter (cf m1 m2 m3)) := isCf_of srt (perm.symm.nodup n3) fun k => by
      rw [perm.mem_iff, i3, i2, i1]
      simp [or_assoc]
    have hyl : ys.length < 64 := by rw [perm.length_eq]; exact l64
    have hFp : p ≠ F := fun z => by rw [z, upd_same] at hp; cases hp
    have s2 : ∀ b o, (upd H F (.lst [])) b = some o → (upd (upd (upd (upd (upd H F (.lst [])) p (.dK [])) p (.dK (mergeK [] k1))) p (.dK (mergeK (mergeK [] k1) k2))) p (.dK (mergeK (mergeK (mergeK [] k1) k2) k3))) b = some o := fun b o e => by
      have h := ne_of_none e hp
      rw [upd_ne h, upd_ne h, upd_ne h, upd_ne h]
      exact e
    generalize hG : upd (upd (upd (upd (upd H F (.lst [])) p (.dK [])) p (.dK (mergeK [] k1))) p (.dK (mergeK (mergeK [] k1) k2))) p (.dK (mergeK (mergeK (mergeK [] k1) k2) k3)) = G at hl s2 ⊢
    clear hG
    have hGF : G F = some (.lst []) := s2 _ _ upd_same
    have hlF : l ≠ F := fun z => by rw [z, hGF] at hl; cases hl
    refine ⟨l, rfl, ⟨_, SqL.of upd_same⟩, for_list (xs := ys.map V.str) (fun i σ H4 => ∃ x, σ = [some (.ref a), some (.ref b), some (.ref c), some (.ref F), x] ∧ Same H H4 ∧ H4 l = some (.lst (ys.map V.str)) ∧ H4 F = some (.lst (((ys.take i).filter (cf m1 m2 m3)).map V.str)))
      ⟨_, rfl, s1.trans (Same.trans s2 (same_upd hl)), upd_same, by rw [upd_ne (Ne.symm hlF)]; exact hGF⟩ (fun i σ H4 _ h => by obtain ⟨x, _, _, h, _⟩ := h; exact SqL.of h) ?_ ?_⟩
    · rintro i x σ H4 hx ⟨y, rfl, s4, h4, hF4⟩
      obtain ⟨k, hk, rfl⟩ := map_at hx
      have w4 := rdS_of s4
      have hlen : ((ys.take i).filter (cf m1 m2 m3)).length ≤ 64 := by
        have := List.length_filter_le (cf m1 m2 m3) (ys.take i)
        have h2 : (ys.take i).length ≤ ys.length := by rw [List.length_take]; omega
        omega
      refine ⟨_, rfl, _, rfl, _, rfl, a, b, m1, m2, k, rfl, ha.mono w4, hb.mono w4, o1.mono (by decide), o2.mono (by decide), fun H5 s5 => ⟨_, rfl, ?_⟩⟩
      have w5 := rdS_of (s4.trans s5)
      cases c1 : ch m1 m2 k with
      | false =>
        refine iteF (iteF ⟨_, rfl, s4.trans s5, s5 _ _ h4, ?_⟩)
        rw [take_filter _ hk, if_neg (by unfold cf; rw [c1]; exact Bool.false_ne_true)]
        exact s5 _ _ hF4
      | true =>
      refine iteT ⟨_, rfl, _, rfl, _, rfl, a, c, m1, m3, k, rfl, ha.mono w5, hc.mono w5, o1.mono (by decide), o3.mono (by decide), fun H6 s6 => ⟨_, rfl, ?_⟩⟩
      have w6 := rdS_of ((s4.trans s5).trans s6)
      cases c2 : ch m1 m3 k with
      | false =>
        refine iteF (iteF ⟨_, rfl, (s4.trans s5).trans s6, s6 _ _ (s5 _ _ h4), ?_⟩)
        rw [take_filter _ hk, if_neg (by unfold cf; rw [c1, c2]; exact Bool.false_ne_true)]
        exact s6 _ _ (s5 _ _ hF4)
      | true =>
      refine iteT ⟨_, rfl, _, rfl, _, rfl, b, c, m2, m3, k, rfl, hb.mono w6, hc.mono w6, o2.mono (by decide), o3.mono (by decide), fun H7 s7 => ⟨_, rfl, ?_⟩⟩
      have s47 := ((s4.trans s5).trans s6).trans s7
      have h7 := s7 _ _ (s6 _ _ (s5 _ _ h4))
      have hF7 := s7 _ _ (s6 _ _ (s5 _ _ hF4))
      cases c3 : eqD (lk m2 k) (lk m3 k) with
      | true =>
        refine ifF rfl ⟨_, rfl, s47, h7, ?_⟩
        rw [take_filter _ hk, if_neg (by unfold cf; rw [c1, c2, c3]; exact Bool.false_ne_true)]
        exact hF7
      | false =>
        refine ifT rfl ?_
        refine ⟨_, rfl, .inl ⟨rfl, _, SqL.of hF7⟩, _, rfl, F, _, _, rfl, rfl, hF7, ?_, ?_⟩
        · rw [List.length_map]; exact lt_line (by omega)
        · refine ⟨_, rfl, fun b o e => by rw [upd_ne (ne_of_none e hF)]; exact s47 b o e, by rw [upd_ne hlF]; exact h7, ?_⟩
          rw [take_filter _ hk, if_pos (by unfold cf; rw [c1, c2, c3]; rfl), upd_same, List.map_append]
          rfl
    · rintro σ H4 ⟨y, rfl, s4, h4, hF4⟩
      rw [List.length_map, List.take_length] at hF4
      refine ⟨_, rfl, q H4 F _ s4 hF hF4 hys ?_⟩
      have := List.length_filter_le (cf m1 m2 m3) ys
      rw [perm.length_eq] at this
      omega
end
end Mw

end

section
set_option Elab.async false
set_option linter.all false
set_option maxRecDepth 100000
set_option maxHeartbeats 4000000
/-! Conflict(v): made by its __init__, which says super().__init__(text) and keeps v as given. -/
namespace Mw
open PySem PySem.Calls PyProof.Rows PySem.HandSPX
open PySem.W hiding Looks
open Builtin Builtin.ObjectAttr
abbrev rtTail : List Value := [.type "RuntimeError", .type "Exception", .type "BaseException", .type "object"]
def clsBody : Stmt → List Stmt
  | .ClassDef (body := b) .. => b
  | _ => []
def sInit : Stmt := (clsBody (top 5)).getD 0 (.Pass ⟨0, 0, 0, 0⟩)
/-- what the written part says of Conflict, at C, and of its __init__, at fI -/
structure CfTxt (K : Frag) (mg : Str → Option Value) (C fI : Addr) : Prop where
  gC : mg "Conflict" = some (.ref C)
  sup : mg "super" = none
  cls : ∃ nm q N bs bm sn sub ab col dd k0 k1 k2 k3 k5, K.lookup C = some (excClassObj nm q C N bs bm true sn sub ab col dd k0 k1 k2 k3 k5 "RuntimeError.__new__") ∧ excTail rtTail bm = true
  inn : excInitIn K C rtTail "RuntimeError.__new__" = true
  ovr : excOver K C rtTail = true
  tak : takerIn K C "given" = some none
  sa : findIn K (.ref C) "__setattr__" = some (some (.builtin "object.__setattr__"))
  ga : findIn K (.ref C) "__getattribute__" = some (some (.builtin "BaseException.__getattribute__"))
  gg : findIn K (.ref C) "__getattr__" = some none
  noN : findIn K (.ref C) "given" = some none
  iC : findIn K (.ref C) "__init__" = some (some (.ref fI))
  tC : typeIn K (.ref fI) = some (.type "function")
  kC : keepIn K (.ref C) = true
  exC : subIn K (.ref C) (.type "BaseException") = some true
  rtC : subIn K (.ref C) (.type "RuntimeError") = some true
  tyC : typeIn K (.ref C) = some (.type "type")
  hdC : hasDictIn K C = true
  te : exmOne K (.ref C) (.ref C) = some true
  selfC : mroIn K C (.ref C) = some true
  opq : nsIn K cStatics "thirdparty.any" = some none
  sIn : ks_superIn K C C "__init__" = some (some (.builtin "RuntimeError.__init__"))
  fn : ∃ (oc : Value) (od : Option Addr) (kV doc pm : Value) (an : Option Addr) (cda cc : Addr) (ct : Value) (osl : Array (Option Value)) (ccl cl : Value) (cdd cld : Option Addr) (vs : Array Value) (ccs csl : Array (Option Value)) (tf : Tok),
    K.lookup fI = some ⟨oc, od, .func (ksFn "__init__" "Conflict.__init__" (L2.defArgs sInit) (L2.defBody sInit) (L2.defScope sInit) .none kV doc pm an (.ref cda) ct cc), osl⟩ ∧ codeIn K (.ref cda) "Conflict.__init__" = true ∧
    K.lookup cda = some ⟨ccl, cdd, .fields vs, ccs⟩ ∧ vs[2]? = some (.str PySem.Challenge.pw_recordshelf_k62_whole_merges.main.file tf) ∧ K.lookup cc = some ⟨cl, cld, .cell (some (.ref C)), csl⟩
theorem one_size (v : Value) : [v].length ≤ sizeLine := by
  rw [sizeLine_eq]
  exact (by decide : 1 ≤ 16777216)
theorem kept_but {K : Frag} {h h' : Heap} {x : Addr} (X : K.In h) (hx : K.lookup x = none) (k : ∀ b o, b ≠ x → h.get? b = some o → h'.get? b = some o) : K.In h' := fun a o e =>
  k a o (fun z => by rw [z, hx] at e; cases e) (X a o e)
section
variable {prog : Program} {w : World} {A : Around} {E : Value → Shared → Prop} {s : Shared} {base h₀ : Heap} {L : Addr} {m mg : Str → Option Value} {news : List (Addr × Obj)} {K : Frag} {x C D f cc cda : Addr} {ox : Obj} {odx : Option Obj} {scope : Scope}
/-- super() within a method, its text by Mod -/
theorem super_node {body : List Stmt} {q : Str} {p0 p1 : Pos} {attr : Str} {whole : Sem Value} {fd : FuncData} {ar : Arg} {vs : Array Value} {file : Str} {tf : Tok} {oc ccl cl : Value} {od cdd cld : Option Addr} {osl ccs csl : Array (Option Value)} {cdD : ClassData} {Q : Value → Shared → Prop}
    (F : Fr h₀ L s.heap m) (X₀ : K.In h₀) (N : News h₀ L s.heap news) (MO : L2.Mod K mg h₀)
    (hf : K.lookup f = some ⟨oc, od, .func fd, osl⟩) (hp : (fd.params.posonlyargs ++ fd.params.args).head? = some ar) (hv : m ar.arg = some (.ref x)) (I : InstAt s.heap x ox C odx)
    (hcode : K.lookup cda = some ⟨ccl, cdd, .fields vs, ccs⟩) (hvs : vs[2]? = some (.str file tf)) (hfile : ((prog.main.file : Str) == file) = true)
    (hcell : K.lookup cc = some ⟨cl, cld, .cell (some (.ref D)), csl⟩) (hD : clsIn K D = some cdD) (hsub : mroIn K C (.ref D) = some true) (hsuper : mg "super" = none)
    (hat : (attr == ("__class__" : Str)) = false) (hks : scope.names.lookup ("super" : Str) = some .globalImplicit) (hkc : scope.names.lookup ("__class__" : Str) = some .free) (hka : scope.names.lookup ar.arg = some .local) (hk : scope.kind = .function)
    (htop : (prog.main.scope.names.lookup ("super" : Str)).isSome = false) (hboot : bootBuiltins "super" = some (.type "super"))
    (h : ∀ so h', Fr h₀ L h' m → News h₀ L h' ((so, ks_superObj D x C) :: news) → (∀ p ∈ news, p.1 < so) → Q (.ref so) { s with heap := h' }) :
    _root_.PySem.wpAt (model prog w) A (.func body (ksEnv q scope L f (.ref cda) cc)) (attributeBase (.Call (.Name "super" p0) [] [] p1) attr (ksEnv q scope L f (.ref cda) cc) whole) Q E s := by
  have X : K.In s.heap := X₀.keeps F.keep
  obtain ⟨mb, hb1, hb2⟩ := MO.blt
  obtain ⟨hh, g, d, t, os⟩ := s
  obtain ⟨oD, hD1, hD2⟩ : ∃ oD, hh.get? D = some oD ∧ oD.data = .cls cdD := by
    unfold clsIn at hD
    split at hD
    · rename_i c d cd' sl ho
      cases hD
      exact ⟨_, X _ _ ho, rfl⟩
    · cases hD
  refine ks_wpAt_super_base (env := ksEnv q scope L f (.ref cda) cc) hks hkc hat rfl (X _ _ hf) rfl hp rfl (X _ _ hcode) rfl hvs hfile htop ?_
  refine ks_loadName_global hk hks (loadGlobal_builtin (env := ksEnv q scope L f (.ref cda) cc) (MO.glob.keeps F.keep) hsuper (hb1.keeps F.keep) ((hb2 _ (by decide +kernel)).trans hboot) ⟨rfl, ?_⟩)
  refine wpAny_loadName_free hk hkc rfl ⟨_, X _ _ hcell, rfl⟩ ?_
  refine wpAny_loadName_local hk hka F.ns hv ?_
  refine ks_wpAny_isType_cls hD1 hD2 ⟨rfl, ?_⟩
  refine ks_wpAny_call_super hD1 hD2 I.at_ I.cls (fun c e => ?_) (looks_mroIn X hsub) (fun h' e k => ?_)
  · have := I.no
    unfold notCls at this
    rw [e] at this
    exact Bool.noConfusion this
  · obtain ⟨F', N', l'⟩ := ks_newsPush (s := ⟨hh, g, d, t, os⟩) F N rfl e k
    exact h _ _ F' N' l'
/-- self.given = v, the object's dict made -/
theorem cf_osa {R : Result → Shared → Prop} {hp : Heap} {g : Array GenState} {d : Drawn} {t : Nat} {os : OsState} {name : Str} {tk : Tok} {v : Value} {fv : Array Value} {cd : ClassData}
    (X : K.In hp) (hx : hp.get? x = some { cls := .ref C, data := .fields fv }) (hcd : clsIn K C = some cd) (hh : cd.hasDict = true) (ov : excOver K C rtTail = true) (ta : takerIn K C name = some none)
    (hq : ∀ h' tk' dx, (∀ b o, b ≠ x → hp.get? b = some o → h'.get? b = some o) → hp.objs.size ≤ dx → dx ≠ x → h'.get? x = some { cls := .ref C, dict := some dx, data := .fields fv } →
      h'.Ns1 dx (fun y => if y = name then some v else none) → R (.ok (.ret .none)) ⟨h', g, d, tk', os⟩) :
    codeAny (model prog w) A (.call (.builtin "object.__setattr__") ⟨[.ref x, .str name tk, v], []⟩) R ⟨hp, g, d, t, os⟩ := by
  have I : InstAt hp x { cls := .ref C, data := .fields fv } C none := ⟨hx, rfl, rfl, trivial⟩
  have hxs : x ≠ hp.objs.size := Nat.ne_of_lt (Heap.lt_size hx)
  have hcls : PySem.W.Looks (model prog w) hp (classData C) cd := looks_clsIn X hcd
  refine osa_openX (s := ⟨hp, g, d, t, os⟩) PySem.F.store_RuntimeError X I ov ta fun b => ?_
  show wpAny _ _ (storeInOwnDict (.ref x) (.ref C) (.str name tk) name v b) _ _ _
  obtain ⟨nm, bs, mro, ns, qn, hd, sn, sb, ab, col, del⟩ := cd
  dsimp only at hh
  subst hh
  unfold storeInOwnDict ownDictForStores
  repeat (first | with_reducible refine store_in_new ?_ ?_ | with_reducible refine wpAny_loadPart_at hx ?_ | with_reducible refine hcls.at ?_ | wp_step)
  · exact ⟨_, #[], _, (Heap.get?_update_ne _ _ _ _ hxs.symm).trans (Heap.get?_push_at rfl rfl), rfl, fun e he => absurd he (by simp), fun _ => rfl⟩
  · intro h' tk' hn' hs
    have hx₁ : (hp.push { cls := .type "dict", data := .dict #[] }).get? x = some { cls := .ref C, data := .fields fv } := Heap.get?_push_of_some _ hx
    refine hq h' tk' hp.objs.size (fun b o hb ho => ?_) (Nat.le_refl _) hxs.symm ?_ hn'
    · exact (hs.2 b (Nat.ne_of_lt (Heap.lt_size ho))).trans ((Heap.get?_update_ne _ _ _ _ hb).trans (Heap.get?_push_of_some _ ho))
    · exact (hs.2 x hxs).trans (Heap.get?_update_self _ hx₁ rfl)
end
section
variable {w : World} {A : Around} {E : Value → Shared → Prop} {s : Shared} {h₀ : Heap} {mg : Str → Option Value} {K : Frag} {C fI : Addr}
abbrev pW : Program := PySem.Challenge.pw_recordshelf_k62_whole_merges
theorem ldK {M : Model} {s : Shared} {name : Str} {scope : Scope} {L a cc : Addr} {cd : Value} {m : Str → Option Value} {x : Str} {pos : Pos} {v : Value} {Q : Value → Shared → Prop} {A : Around} {E : Value → Shared → Prop} (hn : s.heap.Ns L m) (hv : m x = some v) (h : Q v s)
    (hk : scope.kind = .function := by rfl) (hl : (ksEnv name scope L a cd cc).kindOf x = some .local := by rfl) (hd : (x == ("__debug__" : Str)) = false := by decide) :
    wpAny M A (eval (.Name x pos) (ksEnv name scope L a cd cc)) Q E s := wpAny_Name (wpAny_loadName_local hk hl hn hv h) hd
theorem cf_init {R : Result → Shared → Prop} (T : CfTxt K mg C fI) (MO : L2.Mod K mg h₀) {x t0 : Addr} {v : Value} (k0 : ∀ b o, h₀.get? b = some o → s.heap.get? b = some o) (h0sz : h₀.objs.size ≤ s.heap.objs.size) (hx0 : h₀.get? x = none) (hx : s.heap.get? x = some (excO C t0)) (hroom : A.depth < recursionLimit)
    (hq : ∀ h' tk dx t1, (∀ b o, h₀.get? b = some o → h'.get? b = some o) → h'.get? x = some { cls := .ref C, dict := some dx, data := .fields #[.ref t1, .none, .none, .none, .bool false, .none] } → h₀.objs.size ≤ dx → dx ≠ x →
      h'.Ns1 dx (fun y => if y = "given" then some v else none) → R (.ok (.ret .none)) { s with heap := h', toks := tk }) :
    codeAny (model pW w) A (.call (.ref fI) ⟨[.ref x, v], []⟩) R s := by
  obtain ⟨oc, od, kV, doc, pm, an, cda, cc, ct, osl, ccl, cl, cdd, cld, vs, ccs, csl, tf, ho, hcd, hcode, hvs, hcell⟩ := T.fn
  obtain ⟨nm, q, N, bs, bm, sn, sub, ab, col, dd, k0', k1, k2, k3, k5, hC, hbm⟩ := T.cls
  have hcl : clsIn K C = some { name := nm, bases := bs, mro := .ref C :: bm, ns := N, qualname := q, hasDict := true, slotNames := sn, subclasses := sub, abstract := ab, collection := col, hasDel := false } := by unfold clsIn; rw [hC] <;> rfl
  have X₀ : K.In h₀ := MO.kin
  have X : K.In s.heap := X₀.keeps k0
  have lim : s.heap.NoLimit := MO.nolimit.keeps k0
  refine ks_codeAny_call_defAt (body := L2.defBody sInit) (binds := [("self", .ref x), ("given", v)]) hroom (X _ _ ho) rfl lim (codeRec_of X hcd) rfl (BindsTo.of_eq rfl) (show ∀ x ∈ (L2.defScope sInit).names, x.2 ≠ .cell by decide +kernel) (fun y hy => by
    rcases List.mem_cons.mp hy with rfl | hy
    · rfl
    · rcases List.mem_cons.mp hy with rfl | hy
      · rfl
      · cases hy) (fun h₁ hns k1 => ?_)
  show _root_.PySem.wpAt _ _ (.func _ (ksEnv "Conflict.__init__" (L2.defScope sInit) s.heap.objs.size fI (.ref cda) cc)) (execs _ (ksEnv "Conflict.__init__" (L2.defScope sInit) s.heap.objs.size fI (.ref cda) cc)) _ _ _
  have F1 : Fr h₀ s.heap.objs.size h₁ _ := ⟨hns, fun b o e => k1 b o (k0 b o e), h0sz⟩
  have N1 : News h₀ s.heap.objs.size h₁ [(x, excObj C t0 none .none)] := fun p hp => by
    rw [List.mem_singleton] at hp
    subst hp
    exact ⟨k1 _ _ hx, Nat.ne_of_lt (Heap.lt_size hx), hx0⟩
  refine ks_wpAt_execs_cons (ks_wpAt_Expr_any (ks_wpAt_MethodCall ?_))
  refine super_node (K := K) (C := C) (D := C) (odx := none) F1 X₀ N1 MO ho rfl (by rfl) (InstAt.of_exc0 N1 List.mem_cons_self) hcode hvs (by simp) hcell hcl T.selfC T.sup (by decide) rfl rfl rfl rfl (by decide +kernel) (by kernel_rfl) fun so h2 F2 N2 l2 => ?_
  have xso : x < so := l2 _ List.mem_cons_self
  refine kxs_method kxs_RuntimeError F2 X₀ N2 List.mem_cons_self (InstAt.of_exc0 N2 (.tail _ List.mem_cons_self)) T.opq T.sIn T.rtC (by decide) fun q h3 F3 N3 l3 => ?_
  have xq : x < q := l3 _ (.tail _ List.mem_cons_self)
  refine kxs_callWith1 N3 List.mem_cons_self ?_
  show wpAny _ _ (spliced ((false, eval (.Constant (.str "two changes do not agree") 0 ⟨19, 25, 19, 51⟩) (ksEnv "Conflict.__init__" (L2.defScope sInit) s.heap.objs.size fI (.ref cda) cc)) :: backTo ⟨19, 8, 19, 52⟩ (starEach [] (ksEnv "Conflict.__init__" (L2.defScope sInit) s.heap.objs.size fI (.ref cda) cc)))) _ _ _
  refine Calls.spliced_cons ?_
  refine Calls.Constant_str ?_
  refine Calls.spliced_nil ⟨kxs_at N3 List.mem_cons_self, ?_⟩
  refine kxs_call F3 X₀ N3 PySem.F.excBase_RuntimeError T.inn List.mem_cons_self (.tail (Nat.ne_of_gt xq) (.tail (Nat.ne_of_gt xso) (.head fun p hp => nomatch hp))) (one_size _) fun t' h4 F4 N4 l4 => ?_
  have hx4 := (N4 (x, excObj C t' none .none) (by simp)).1
  have X4 : K.In h4 := X₀.keeps F4.keep
  show _root_.PySem.wpAt _ _ _ (execs [_] _) _ _ _
  refine wpAt_of_wpAny (wpAny_execs_cons (plainObj_wpAny_Assign_Attribute ?_))
  refine ldK (v := v) F4.ns (by rfl) (ldK (v := .ref x) F4.ns (by rfl) ?_)
  refine set_plain X4 (ox := excObj C t' none .none) (od := none) ⟨hx4, rfl, rfl, trivial⟩ T.sa ?_
  refine cf_osa X4 hx4 hcl rfl T.ovr T.tak fun h5 tk5 dx k5 dn dne hx5 hn5 => ?_
  show wpAny _ _ (execs [] _) _ _ _
  refine wpAny_execs_nil (hq h5 tk5 dx t' (fun b o e => k5 b o (fun z => by rw [z, hx0] at e; cases e) (F4.keep b o e)) hx5 ?_ dne hn5)
  exact Nat.le_trans F4.above (Nat.le_trans (Nat.le_of_lt F4.ns.lt) dn)
/-- what Conflict(v) leaves -/
structure CfMade (h h' : Heap) (e C d : Addr) (v : Value) : Prop where
  keep : ∀ b o, h.get? b = some o → h'.get? b = some o
  new : h.objs.size ≤ e
  obj : ∃ t1 : Addr, h'.get? e = some { cls := .ref C, dict := some d, data := .fields #[.ref t1, .none, .none, .none, .bool false, .none] }
  dbig : h.objs.size ≤ d
  dne : d ≠ e
  ns : h'.Ns1 d (fun y => if y = "given" then some v else none)
theorem cf_made {R : Result → Shared → Prop} (T : CfTxt K mg C fI) (MO : L2.Mod K mg s.heap) {v : Value} (hroom : A.depth + 1 < recursionLimit)
    (hq : ∀ h' tk e d, CfMade s.heap h' e C d v → R (.ok (.ret (.ref e))) { s with heap := h', toks := tk }) :
    codeAny (model pW w) A (.call (.ref C) ⟨[v], []⟩) R s := by
  obtain ⟨nm, N', qn, bs, bm, hdct, sn, sub, ab, col, dd, k0, k1, k2, k3, k5, hC, hT⟩ := excInit_of MO.kin T.inn
  obtain ⟨hp, g, dr, tk, os⟩ := s
  have k : ∀ b o, hp.get? b = some o → ((hp.push (kdv_tup [v])).push (excO C hp.objs.size)).get? b = some o := fun b o e => Heap.get?_push_of_some _ (Heap.get?_push_of_some _ e)
  have hget : ((hp.push (kdv_tup [v])).push (excO C hp.objs.size)).get? (hp.objs.size + 1) = some (excO C hp.objs.size) := by heap_get
  have hnx : hp.get? (hp.objs.size + 1) = none := by
    cases e : hp.get? (hp.objs.size + 1) with
    | none => rfl
    | some o => exact absurd (Nat.lt_of_succ_lt (Heap.lt_size e)) (Nat.lt_irrefl _)
  refine call_own PySem.F.excBase_RuntimeError hT hC (looks_findIn MO.kin T.iC) (fun self => bind_fn MO.kin self T.tC) (one_size v) ?_
  refine cf_init (h₀ := hp) (s := ⟨(hp.push (kdv_tup [v])).push (excO C hp.objs.size), g, dr, tk, os⟩) T MO k (by rw [Heap.size_push, Heap.size_push]; omega) hnx hget ?_ fun h' tk' dx t1 k' hx dn dne hns => ?_
  · show A.depth + 1 < recursionLimit
    exact hroom
  · exact ⟨rfl, hq h' tk' (hp.objs.size + 1) dx ⟨k', Nat.le_succ _, ⟨t1, hx⟩, dn, dne, hns⟩⟩
end
end Mw

end

section
set_option Elab.async false
set_option linter.all false
set_option maxRecDepth 100000
set_option maxHeartbeats 4000000
/-! raise Conflict(e). -/
namespace Mw
open PySem PySem.Spec PyProof.Rows L2
theorem relO_giv {v : V} {v' : Value} (r : RelV v v') (f : Str) : RelO (List.lookup f [(("given" : Str), v)]) (if f = "given" then some v' else none) := by
  by_cases hw : f = "given"
  · subst hw
    rw [if_pos rfl]
    have q : List.lookup ("given" : Str) [(("given" : Str), v)] = some v := by simp [List.lookup]
    rw [q]
    exact r
  · rw [if_neg hw]
    have qw : (f == ("given" : Str)) = false := by simpa using hw
    have q2 : List.lookup f [(("given" : Str), v)] = none := by simp [List.lookup, qw]
    rw [q2]
    trivial
theorem mod_up {K : PySem.W.Frag} {mg : Str → Option Value} {base h : Heap} (M : L2.Mod K mg base) (k : ∀ b o, base.get? b = some o → h.get? b = some o) : L2.Mod K mg h :=
  ⟨M.kin.keeps k, M.glob.keeps k, by obtain ⟨mb, h1, h2⟩ := M.blt; exact ⟨mb, h1.keeps k, h2⟩, M.nolimit.keeps k⟩
/-- the own dict of a Conflict -/
abbrev gv (v : V) : HO := .xd [(("given" : Str), v)]
section
variable {X : Cx} {C fI : Addr}
/-- Conflict(e) -/
def tMkCf (C : Addr) (ta : TA) : L2.St → Hp → XK → Prop := fun σ H Q => ta σ H fun vs H1 => ∃ v, vs = [v] ∧ ∀ d, H1 d = none → Q (.ref C) (some d) (upd H1 d (gv v))
theorem pmk_cf {a : Expr} {ta : TA} {p pos : Pos} {k : Nat} (T : CfTxt X.K X.mg C fI) (hp : X.prog = pW) (hr : Room k X.A) (ha : PA X [a] ta) (hg : Gl X "Conflict" := by rfl)
    (he : starEach (a :: []) X.env = (false, eval a X.env) :: starEach [] X.env := by rfl) (hpl : (backTo pos (starEach [] X.env)).any (·.1) = false := by rfl) :
    PMk X (.Call (.Name "Conflict" p) [a] [] pos) (tMkCf C ta) := by
  intro pins s σ H Q I h
  refine wpAny_Call_Name_kw (ld_glob I hg T.gC ?_)
  refine PySem.W.callWith_K (h₀ := X.base) I.ok.mod.kin T.kC (thn (ha.run pos pins s σ H _ I h) fun us s1 hh => ?_) he hpl
  obtain ⟨vs, H1, I1, r1, v, ev, q1⟩ := hh
  subst ev
  refine ⟨I1.kIn, ?_⟩
  cases r1 with
  | cons rv rn =>
    rename_i v' us'
    cases rn
    show wpAny _ _ (call (.ref C) [v']) _ _ _
    have mo := mod_up I1.mod I1.bk
    obtain ⟨h1, g, dr, tk, os⟩ := s1
    rw [hp]
    refine wpAny_call (cf_made (s := ⟨h1, g, dr, tk, os⟩) T mo (by have := hr.dp; omega) fun h' tk' e d M => ?_)
    show MkP X pins σ Q (.ref e) ⟨h', g, dr, tk', os⟩
    obtain ⟨t1, hoe⟩ := M.obj
    have hns := M.ns
    obtain ⟨G', g1, g2⟩ := restrict h' fun b => decide (b ≠ e)
    have gk : ∀ b, b ≠ e → G'.get? b = h'.get? b := fun b hb => g1 b (decide_eq_true hb)
    have ge : G'.get? e = none := g2 e (by simp)
    have old : ∀ b o, h1.get? b = some o → G'.get? b = some o := fun b o q => (gk b (Nat.ne_of_lt (Nat.lt_of_lt_of_le (Heap.lt_size q) M.new))).trans (M.keep b o q)
    have ob : ObjOk X.prog X.w (upd H1 d (gv v)) G' d (gv v) :=
      ⟨_, hns.at (fun o q => (gk d M.dne).trans q), fun f => relO_giv rv f⟩
    have J : Inv X pins σ (upd H1 d (gv v)) ⟨G', g, dr, tk', os⟩ := I1.laid (t' := tk') old M.dbig ob
    refine ⟨e, _, _, ⟨G', g, dr, tk', os⟩, _, .ref C, some d, rfl, J, fun b o q => ?_, ge, hoe, ⟨rfl, rfl⟩, rfl, rfl, ?_, rfl, I1.bare, raises_own T.exC T.tyC, q1 d (I1.hok.fresh M.dbig)⟩
    · by_cases hb : b = e
      · have q' : G'.get? b = some o := q
        rw [hb, ge] at q'; cases q'
      · exact (gk b hb).symm.trans q
    · rw [upd_ne (Ne.symm M.dne)]
      exact I1.hok.fresh M.new
/-- raise Conflict(e) -/
def tRaiseCf (C : Addr) (W : WX) (ta : TA) : TS := fun _ σ H => tMkCf C ta σ H fun cls d H' => W cls d σ H'
theorem ps_raiseCf {a : Expr} {ta : TA} {W : WX} {p pos pos2 : Pos} {k : Nat} (hc : X.calm = true) (T : CfTxt X.K X.mg C fI) (hp : X.prog = pW) (hr : Room k X.A) (tk : Takes X W) (ha : PA X [a] ta) (hg : Gl X "Conflict" := by rfl)
    (he : starEach (a :: []) X.env = (false, eval a X.env) :: starEach [] X.env := by rfl) (hpl : (backTo pos (starEach [] X.env)).any (·.1) = false := by rfl) :
    PS X (.Raise (some (.Call (.Name "Conflict" p) [a] [] pos)) none pos2) (tRaiseCf C W ta) := ps_raise hc tk (pmk_cf T hp hr ha hg he hpl)
end
end Mw

end

section
set_option Elab.async false
set_option linter.all false
set_option maxRecDepth 100000
set_option maxHeartbeats 4000000
/-! Lists of texts compared; a lock told by places. -/
namespace Mw
open PySem PySem.Spec PyProof.Rows L2
theorem dpAll_strs {K : PySem.W.Frag} {H : Hp} : ∀ ks : List Str, DpAll K H (ks.map V.str) (ks.map PyData.str)
  | [] => .nil
  | k :: r => .cons (.str k) (dpAll_strs r)
theorem dp_strs {K : PySem.W.Frag} {H : Hp} {a : Addr} {ks : List Str} (h : SqL K H a (ks.map V.str)) : Dp K H (.ref a) (.list (ks.map PyData.str)) := .lst h (dpAll_strs ks)
theorem eqv_strs : ∀ ks ls : List Str, PyData.eqvAll (ks.map PyData.str) (ls.map PyData.str) = decide (ks = ls)
  | [], [] => by simp [PyData.eqvAll]
  | [], _ :: _ => by simp [PyData.eqvAll]
  | _ :: _, [] => by simp [PyData.eqvAll]
  | k :: r, l :: t => by
    rw [List.map_cons, List.map_cons]
    unfold PyData.eqvAll
    rw [eqv_strs r t]
    simp only [PyData.eqv]
    rw [Bool.eq_iff_iff]
    simp
theorem strOk_of {k : Str} (h : okS k) : PyData.strOk k = true := by
  show k.cps.all _ = true
  rw [← Array.all_toList, List.all_eq_true]
  intro c hc
  have key : ∀ c ∈ signs, c < 0x110000 := by decide
  exact decide_eq_true (key c (h c hc))
theorem lay_strs : ∀ ks : List Str, (∀ k ∈ ks, okS k) → PyData.canLayAll0 (ks.map PyData.str) = true
  | [], _ => by simp [PyData.canLayAll0]
  | k :: r, h => by
    rw [List.map_cons]
    simp only [PyData.canLayAll0, lay_strs r fun j hj => h j (List.mem_cons_of_mem _ hj), PyData.canLay0, strOk_of (h k List.mem_cons_self), Bool.and_self]
theorem depth_strs : ∀ ks : List Str, PyData.depthAll (ks.map PyData.str) ≤ 1
  | [] => by simp [PyData.depthAll]
  | k :: r => by
    rw [List.map_cons]
    have := depth_strs r
    simp only [PyData.depthAll, PyData.depth]
    omega
theorem shaped_strs (ks : List Str) (h : ∀ k ∈ ks, okS k) : SeqAt.shaped (.list (ks.map PyData.str)) = true := by
  have := depth_strs ks
  unfold SeqAt.shaped
  simp only [PyData.canLay0, lay_strs ks h, PyData.depth, Bool.true_and]
  exact decide_eq_true (by omega)
theorem IsCf.ok {base one other : Mp} {ks : List Str} {a b c : Nat} (h : IsCf base one other ks) (h1 : OkM a base) (h2 : OkM b one) (h3 : OkM c other) : ∀ k ∈ ks, okK k := fun k hk => by
  have key : ∀ {n : Nat} {m : Mp}, OkM n m → k ∈ Mw.keys m → okK k := fun {n m} o hm => by
    obtain ⟨p, hp, e⟩ := List.mem_map.mp hm
    exact e ▸ o.key p hp
  rcases cf_keys ((h.mem k).mp hk) with z | z | z
  · exact key h1 z
  · exact key h2 z
  · exact key h3 z
/-- the same, told by places: d is again what it was -/
def tLockS2 (t : TS) : TS := fun D σ H => ∃ d kvs, Rd H d (.dK kvs) ∧ ∀ od H1, H1 d = some (.frz od (.dK kvs)) → RdS H H1 → (∀ b, b ≠ d → H1 b = H b) →
  t ⟨fun σ' H' => H' d = some (.frz od (.dK kvs)) ∧ ∀ H2, H2 d = H d → RdS H' H2 → (∀ b, b ≠ d → H2 b = H' b) → D.nx σ' H2,
     fun v H' => H' d = some (.frz od (.dK kvs)) ∧ ∀ H2, H2 d = H d → RdS H' H2 → (∀ b, b ≠ d → H2 b = H' b) → D.rt v H2,
     fun σ' H' => H' d = some (.frz od (.dK kvs)) ∧ ∀ H2, H2 d = H d → RdS H' H2 → (∀ b, b ≠ d → H2 b = H' b) → D.bk σ' H2,
     fun σ' H' => H' d = some (.frz od (.dK kvs)) ∧ ∀ H2, H2 d = H d → RdS H' H2 → (∀ b, b ≠ d → H2 b = H' b) → D.ct σ' H2⟩ σ H1
theorem ps_lockS2 {X : Cx} {st : Stmt} {t : TS} (h : PS X st t) : PS X st (tLockS2 t) := by
  refine ⟨fun pins s σ H D I hw => ?_⟩
  obtain ⟨d, kvs, hd, hw⟩ := hw
  have mu : Mut (some (.dK kvs)) := trivial
  rcases hd with hd | ⟨od, hd⟩
  · obtain ⟨od, I1⟩ := I.lock hd mu
    refine thn (h.run pins s σ _ _ I1 (hw od _ upd_same (rdS_lock hd) fun b hb => upd_ne hb)) fun f s1 q => ?_
    have hs : ∀ H' : Hp, (upd H' d (.dK kvs)) d = H d := fun H' => by rw [upd_same, hd]
    cases f with
    | next => obtain ⟨σ', H', I2, e, q⟩ := q; exact ⟨σ', _, I2.unlock e (I.nofrz hd mu), q _ (hs _) (rdS_unlock e) fun b hb => upd_ne hb⟩
    | brk => obtain ⟨σ', H', I2, e, q⟩ := q; exact ⟨σ', _, I2.unlock e (I.nofrz hd mu), q _ (hs _) (rdS_unlock e) fun b hb => upd_ne hb⟩
    | cont => obtain ⟨σ', H', I2, e, q⟩ := q; exact ⟨σ', _, I2.unlock e (I.nofrz hd mu), q _ (hs _) (rdS_unlock e) fun b hb => upd_ne hb⟩
    | ret v => obtain ⟨x, σ', H', I2, r, e, q⟩ := q; exact ⟨x, σ', _, I2.unlock e (I.nofrz hd mu), r, q _ (hs _) (rdS_unlock e) fun b hb => upd_ne hb⟩
  · refine thn (h.run pins s σ _ _ I (hw od H hd (RdS.refl _) fun _ _ => rfl)) fun f s1 q => ?_
    cases f with
    | next => obtain ⟨σ', H', I2, e, q⟩ := q; exact ⟨σ', _, I2, q _ (e.trans hd.symm) (RdS.refl _) fun _ _ => rfl⟩
    | brk => obtain ⟨σ', H', I2, e, q⟩ := q; exact ⟨σ', _, I2, q _ (e.trans hd.symm) (RdS.refl _) fun _ _ => rfl⟩
    | cont => obtain ⟨σ', H', I2, e, q⟩ := q; exact ⟨σ', _, I2, q _ (e.trans hd.symm) (RdS.refl _) fun _ _ => rfl⟩
    | ret v => obtain ⟨x, σ', H', I2, r, e, q⟩ := q; exact ⟨x, σ', _, I2, r, q _ (e.trans hd.symm) (RdS.refl _) fun _ _ => rfl⟩
theorem refs_paired {β : Type} {F : Addr → β → Prop} : ∀ {l : List V} {m : List β}, Paired (fun y x => ∃ t, y = V.ref t ∧ F t x) l m → ∃ ts : List Addr, l = ts.map V.ref ∧ Paired F ts m
  | _, _, .nil => ⟨[], rfl, .nil⟩
  | _, _, .cons ⟨t, e, f⟩ r => by
    obtain ⟨ts, e2, h⟩ := refs_paired r
    exact ⟨t :: ts, by rw [e, e2]; rfl, .cons f h⟩
theorem paired_mapR {α β γ : Type} {F : α → γ → Prop} {g : β → γ} : ∀ {l : List α} {m : List β}, Paired (fun a b => F a (g b)) l m → Paired F l (m.map g)
  | _, _, .nil => .nil
  | _, _, .cons r t => .cons r (paired_mapR t)
end Mw

end

section
set_option Elab.async false
set_option linter.all false
set_option maxRecDepth 100000
set_option maxHeartbeats 4000000
/-! merged. -/
namespace Mw
open PySem PySem.Spec PyProof.Rows L2
theorem lock_same {H3 H4 H5 H6 : Hp} {a : Addr} (off4 : ∀ b, b ≠ a → H4 b = H3 b) (s5 : Same H4 H5) (ea : H6 a = H3 a) (off6 : ∀ b, b ≠ a → H6 b = H5 b) : Same H3 H6 := fun b o e => by
  by_cases hb : b = a
  · subst hb; rw [ea]; exact e
  · rw [off6 b hb]
    exact s5 b o (by rw [off4 b hb]; exact e)
theorem mapAt_ks {H : Hp} {d : Addr} {m : Mp} {ks : List (Key × V)} (h : Rd H d (.dK ks)) (k : KvD H 1 ks m) : MapAt H d m := ⟨ks, h, k⟩
abbrev sMg : Stmt := top 32
theorem scMg : FnScope ["base", "one", "other", "found", "deeds", "key"] ["base", "one", "other"] (defScope sMg) := ⟨rfl, rfl, rfl, by decide +kernel, rfl, by decide +kernel, by decide +kernel⟩
def spMg (C : Addr) : Sp := fun vs H Q E => ∃ (a b c : Addr) (m1 m2 m3 : Mp), vs = [.ref a, .ref b, .ref c] ∧ MapAt H a m1 ∧ MapAt H b m2 ∧ MapAt H c m3 ∧ OkM 12 m1 ∧ OkM 12 m2 ∧ OkM 12 m3 ∧
  (∀ H' r, Same H H' → IsCf m1 m2 m3 [] → MapAt (fr H H') r (mrg m1 m2 m3) → Q (.ref r) H') ∧
  (∀ H' d tp ks, Same H H' → H d = none → IsCf m1 m2 m3 ks → ks ≠ [] → ks.length ≤ 40 → H' d = some (gv (.ref tp)) → H' tp = some (.tup (ks.map V.str)) → E (.ref C) (some d) H')
section
variable {w : World} {K : PySem.W.Frag} {mg : Str → Option Value} {base : Heap} {f fc fa fh fp C fI : Addr} {fd fad fhd fpd : FuncData}
theorem ok_mg (F : Df K mg "merged" sMg ["base", "one", "other"] f fd) (B : Bi mg) (T : CfTxt K mg C fI) (CM : Fun K "check_mappings" "check_mappings" sCM fc fcd) (mC : mg "check_mappings" = some (.ref fc))
    (AC : Df K mg "all_conflicts" sAC ["base", "one", "other"] fa fad) (HC : Df K mg "has_changed" sHC ["base", "one", "key"] fh fhd) (AP : Df K mg "applied" sAp ["mapping", "deeds"] fp fpd)
    (GC : FnR pW w K mg base CX0 5 fc spCM) (GA : FnOk pW w K mg base CX0 7 fa fad ["base", "one", "other"] spAC) (GH : FnOk pW w K mg base CX0 6 fh fhd ["base", "one", "key"] spHC) (GP : FnOk pW w K mg base CX0 6 fp fpd ["mapping", "deeds"] spAp) :
    FnOk pW w K mg base (L2.CX pW w) 8 f fd ["base", "one", "other"] (spMg C) := by
  refine F.fn.okX scMg (fun vs H Q E h => ?_) (fun cdv A outer s H vs Q E hr h => ?_)
  · obtain ⟨a, b, c, m1, m2, m3, rfl, _⟩ := h
    rfl
  · obtain ⟨a, b, c, m1, m2, m3, rfl, ha, hb, hc, o1, o2, o3, q, qx⟩ := h
    have hu := hu_of hr
    have hr5 := hr.mono (by decide : 5 ≤ 7)
    have hr6 := hr.mono (by decide : 6 ≤ 7)
    refine ⟨_, pss_cons (ps_expr (pe_callR GC hr5 rfl mC CM.kp pass0 (pa_cons (pv 0) (pa_cons (pv 1) (pa_cons (pv 2) pa_nil)))))
      (pss_cons (ps_set (i := 3) scMg.nd rfl (Or.inl rfl) (pe_call GA hr rfl AC.m AC.fn.kp AC.b .nil pass0 (pa_cons (pv 0) (pa_cons (pv 1) (pa_cons (pv 2) pa_nil)))))
      (pss_cons (ps_if (pt_cmpR (op_neD hr.units) (pv 3) (pe_lst pa_nil) (nomark _))
        (pss_one (ps_raiseCf rfl T rfl hr (takes_of rfl rfl rfl rfl) (pa_cons (pe_callTy call_tuple_of (by rfl) B.tuple (by decide +kernel) (pa_cons (pv 3) pa_nil)) pa_nil))) pss_nil)
      (PSs.nox (pss_cons (ps_lockS2 (ps_setLc (i := 4) (own := [("key", 5)]) (g := gName 5) rfl scMg.nd rfl rfl (sw_true rfl rfl rfl (by decide +kernel)) (pi_keys (pv 0)) (blkOk_by (N := ["base", "one", "other", "found", "deeds", "key"]) (sc := defScope sMg) (by decide +kernel))
          (fun _ _ _ _ _ => pg_name (i := 5) scMg.nd rfl (Or.inl rfl)) (fun _ _ _ _ _ => pts_one (pt_cmp (pc_dnotin hu (pv 5) (pv 2)))) (fun _ _ _ _ _ => pe_tup (pa_cons pe_str (pa_cons (pv 5) pa_nil)))))
        (pss_cons (ps_lockS2 (ps_for PassesOwn.never rfl (pi_keys (pv 2)) (pg_name (i := 5) scMg.nd rfl (Or.inl rfl))
          (pss_one (ps_if (PW.pt (pw_and (pt_val (pe_call GH hr6 rfl HC.m HC.fn.kp HC.b .nil pass0 (pa_cons (pv 0) (pa_cons (pv 2) (pa_cons (pv 5) pa_nil)))))
              (pw_and1 (pt_not (pt_val (pe_call GH hr6 rfl HC.m HC.fn.kp HC.b .nil pass0 (pa_cons (pv 0) (pa_cons (pv 1) (pa_cons (pv 5) pa_nil)))))))))
            (pss_one (ps_expr (pe_bm PySem.F.plainAttrs_list PySem.F.slot_list_append PySem.F.type_list_append mt_append (pv 4) (pa_cons (pe_tup (pa_cons pe_str (pa_cons (pv 5) (pa_cons (pe_dget hu (pv 2) (pv 5) (fun _ _ => rfl)) pa_nil)))) pa_nil)))) pss_nil))))
        (pss_one (ps_ret (pe_call GP hr6 rfl AP.m AP.fn.kp AP.b .nil pass0 (pa_cons (pv 1) (pa_cons (pv 4) pa_nil)))))))))), ?_⟩
    refine ⟨_, rfl, _, rfl, _, rfl, [a, b, c], [m1, m2, m3], rfl, (by show 3 ≤ 3; decide), .cons ⟨ha, o1.mono (by decide)⟩ (.cons ⟨hb, o2.mono (by decide)⟩ (.cons ⟨hc, o3.mono (by decide)⟩ .nil)), fun H1 s1 => ?_⟩
    have w1 := rdS_of s1
    refine ⟨_, rfl, _, rfl, _, rfl, a, b, c, m1, m2, m3, rfl, ha.mono w1, hb.mono w1, hc.mono w1, o1, o2, o3, fun H2 p ks s2 hpn hp hcf hkl => ?_⟩
    have hok : ∀ k ∈ ks, okS k := fun k hk => (hcf.ok o1 o2 o3 k hk).1
    refine ⟨_, rfl, l0_line, fun e he => ?_⟩
    have s3 : Same H2 (upd H2 e (.lst [])) := same_upd he
    have sH3 : Same H (upd H2 e (.lst [])) := s1.trans (s2.trans s3)
    have hp3 : upd H2 e (.lst []) p = some (.lst (ks.map V.str)) := s3 _ _ hp
    refine ⟨_, _, dp_strs (ks := ks) (SqL.of hp3), dp_strs (ks := []) (SqL.of upd_same), shaped_strs ks hok, shaped_strs [] (fun _ z => nomatch z), _, rfl, ?_⟩
    have heq : PyData.eqv (.list (ks.map PyData.str)) (.list (([] : List Str).map PyData.str)) = decide (ks = []) := by
      simp only [PyData.eqv]
      exact eqv_strs ks []
    rw [heq]
    generalize hG : upd H2 e (.lst []) = H3 at sH3 hp3 ⊢
    clear hG s3
    by_cases hks : ks = []
    · subst hks
      refine ifF rfl ?_
      have w3 := rdS_of sH3
      obtain ⟨k1, hr1, hv1⟩ := ha.mono w3
      obtain ⟨k2, hr2, hv2⟩ := hb.mono w3
      obtain ⟨k3, hr3, hv3⟩ := hc.mono w3
      have l1 := o1.len
      have l3 := o3.len
      have e1 : k1.length = m1.length := Paired.length hv1
      have e3 : k3.length = m3.length := Paired.length hv3
      have nd3 := hv3.nodup o3.nd
      refine ⟨a, k1, hr1, fun od H4 h4 rs4 off4 => ?_⟩
      refine ⟨_, rfl, a, od, rfl, .inl ⟨k1, h4, fun D hD => lc_gen gen_keys hD (fun H s' => s' _ _ h4)
        (fun i G y => ∃ t, y = V.ref t ∧ ∀ x, m1[i]? = some x → DeedAt G t (.drop x.1)) (fun i => ((m1[i]?).map fun x => (lk m3 x.1).isNone).getD false)
        (fun i G G' y s' ⟨t, e, h⟩ => ⟨t, e, fun x hx => (h x hx).mono s'⟩) (by omega) ?_ ?_⟩⟩
      · rintro i x H5 acc Nx hi ⟨k, v, ek, rfl⟩ s5 hacc nx0 nx1
        obtain ⟨j, y, e2, rfl, hy⟩ := hv1.get ek
        refine ⟨rfl, ?_⟩
        have hc5 : MapAt H5 c m3 := (mapAt_ks hr3 hv3).mono (rs4.trans (rdS_of s5))
        obtain ⟨o, g, io, vo⟩ := hc5.get j
        refine ⟨_, rfl, _, rfl, c, o, rfl, g, _, rfl, ?_⟩
        have hkp : ((m1[i]?).map fun x => (lk m3 x.1).isNone).getD false = !o.isSome := by
          rw [e2, io]
          show (lk m3 j).isNone = !(lk m3 j).isSome
          cases lk m3 j <;> rfl
        cases hos : o.isSome with
        | true =>
          rw [hos] at hkp
          exact ifF rfl (nx0 H5 (fun _ _ z => z) hkp)
        | false =>
          rw [hos] at hkp
          refine ifT rfl ⟨_, rfl, l2_line, fun t ht => ?_⟩
          refine nx1 (.ref t) _ (same_upd ht) hkp ⟨t, rfl, fun x hx => ?_⟩
          rw [e2] at hx; cases hx
          refine ⟨?_, o1.key (j, y) (List.mem_of_getElem? e2)⟩
          rw [hid_ne (ne_of_none hacc ht).symm, upd_same]
          rfl
      intro H5 acc s5 hD5 out
      refine ⟨s5 _ _ h4, fun H6 ea rs6 off6 => ?_⟩
      have s36 := lock_same off4 s5 ea off6
      have hDa : D ≠ a := fun z => by rw [z, h4] at hD; cases hD
      have hD3 : H3 D = none := by rw [← off4 D hDa]; exact hD
      have hD6 : H6 D = some (.lst acc) := by rw [off6 D hDa]; exact hD5
      have kpf := kp_filter (m := m1) (keep := fun i => ((m1[i]?).map fun x => (lk m3 x.1).isNone).getD false) (P := fun x => (lk m3 x.1).isNone) (fun i x hx => by
        show ((m1[i]?).map fun x => (lk m3 x.1).isNone).getD false = _
        rw [hx]
        rfl) m1.length (Nat.le_refl _)
      rw [List.take_length] at kpf
      rw [e1] at out
      have pr : Paired (fun y (x : Str × PyData) => ∃ t, y = V.ref t ∧ DeedAt (hid D H5) t (.drop x.1)) acc (m1.filter fun x => (lk m3 x.1).isNone) :=
        paired_comp (fun i y x h1 h2 => by obtain ⟨t, e, h⟩ := h1; exact ⟨t, e, h x h2⟩) out kpf
      obtain ⟨ts, rfl, hts⟩ := refs_paired pr
      have eds : ((Mw.keys m1).filter fun k => (lk m3 k).isNone).map Deed.drop = (m1.filter fun x => (lk m3 x.1).isNone).map fun x => Deed.drop x.1 := by
        unfold Mw.keys
        rw [List.filter_map, List.map_map]
        rfl
      have hts1 : Paired (DeedAt (hid D H6)) ts (((Mw.keys m1).filter fun k => (lk m3 k).isNone).map Deed.drop) := by
        rw [eds]
        refine paired_mapR (Paired.mapP hts fun t x h => ?_)
        exact h.mono rs6.hid
      have hdl1 : (((Mw.keys m1).filter fun k => (lk m3 k).isNone).map Deed.drop).length ≤ 12 := by
        rw [List.length_map]
        refine Nat.le_trans (List.length_filter_le _ _) ?_
        unfold Mw.keys
        rw [List.length_map]
        exact l1
      generalize hds1 : ((Mw.keys m1).filter fun k => (lk m3 k).isNone).map Deed.drop = ds1 at hts1 hdl1
      -- in H6, D aside
      have w36 : RdS H3 (hid D H6) := rdS_of (hid_of s36 hD3)
      have hr36 : Rd H6 c (.dK k3) := (rdS_of s36).rd c _ rfl hr3
      refine ⟨c, k3, hr36, fun od2 H7 h7 rs7 off7 => ?_⟩
      have hDc : D ≠ c := fun z => rd_ne hD3 hr3 z
      have hD7 : H7 D = some (.lst (ts.map V.ref)) := by rw [off7 D hDc]; exact hD6
      have w37 : RdS H3 (hid D H7) := w36.trans rs7.hid
      refine ⟨_, rfl, c, od2, rfl, .inl ⟨k3, h7, for_keys (fun i σ H8 => ∃ x ts, σ = [some (.ref a), some (.ref b), some (.ref c), some (.ref p), some (.ref D), x] ∧ Same (hid D H7) (hid D H8) ∧ H8 D = some (.lst (ts.map V.ref)) ∧
        Paired (DeedAt (hid D H8)) ts (ds1 ++ ((m3.take i).filter fun q => ch m1 m3 q.1 && !ch m1 m2 q.1).map fun q => Deed.put q.1 q.2))
        ⟨_, ts, rfl, (fun _ _ z => z), hD7, by simpa using Paired.mapP hts1 fun _ _ h => h.mono rs7.hid⟩ ?_ ?_ ?_⟩⟩
      · rintro i σ H8 hi ⟨x, ts, rfl, s8, _, _⟩
        have := s8 c _ (by rw [hid_ne (Ne.symm hDc)]; exact h7)
        rw [hid_ne (Ne.symm hDc)] at this
        exact this
      · rintro i k v σ H8 ek ⟨x, ts, rfl, s8, hD8, hts8⟩
        obtain ⟨j, y, e2, rfl, hy⟩ := hv3.get ek
        have okj := o3.key (j, y) (List.mem_of_getElem? e2)
        have gdj := o3.val (j, y) (List.mem_of_getElem? e2)
        have w8 : RdS H3 (hid D H8) := w37.trans (rdS_of s8)
        have w8' : RdS H3 H8 := w8.trans (rdS_of hid_sub)
        have hl8 : ts.length ≤ 40 := by
          have h1 := Paired.length hts8
          rw [List.length_append, List.length_map] at h1
          have h2 := List.length_filter_le (fun q : Str × PyData => ch m1 m3 q.1 && !ch m1 m2 q.1) (m3.take i)
          have h3 : (m3.take i).length ≤ m3.length := by rw [List.length_take]; omega
          omega
        refine ⟨_, rfl, _, rfl, _, rfl, a, c, m1, m3, j, rfl, (mapAt_ks hr1 hv1).mono w8', (mapAt_ks hr3 hv3).mono w8', o1.mono (by decide), o3.mono (by decide), fun H9 s9 => ⟨_, rfl, ?_⟩⟩
        have s89 : Same (hid D H8) (hid D H9) := hid_mono fun b o _ e => s9 b o e
        have w9' : RdS H3 H9 := w8'.trans (rdS_of s9)
        cases c1 : ch m1 m3 j with
        | false =>
          refine iteF (iteF ⟨_, ts, rfl, s8.trans s89, s9 _ _ hD8, ?_⟩)
          rw [take_filter _ e2, if_neg (by show ¬ (ch m1 m3 j && !ch m1 m2 j) = true; rw [c1]; exact Bool.false_ne_true)]
          exact Paired.mapP hts8 fun _ _ h => h.mono (rdS_of s89)
        | true =>
        refine iteT ⟨_, rfl, _, rfl, _, rfl, a, b, m1, m2, j, rfl, (mapAt_ks hr1 hv1).mono w9', (mapAt_ks hr2 hv2).mono w9', o1.mono (by decide), o2.mono (by decide), fun H10 s10 => ⟨_, rfl, ?_⟩⟩
        have s810 : Same (hid D H8) (hid D H10) := s89.trans (hid_mono fun b o _ e => s10 b o e)
        have hD10 := s10 _ _ (s9 _ _ hD8)
        cases c2 : ch m1 m2 j with
        | true =>
          refine ifF rfl ⟨_, ts, rfl, s8.trans s810, hD10, ?_⟩
          rw [take_filter _ e2, if_neg (by show ¬ (ch m1 m3 j && !ch m1 m2 j) = true; rw [c1, c2]; exact Bool.false_ne_true)]
          exact Paired.mapP hts8 fun _ _ h => h.mono (rdS_of s810)
        | false =>
          refine ifT rfl ?_
          have w10 : RdS H3 (hid D H10) := w8.trans (rdS_of s810)
          have hr10 : Rd H10 c (.dK k3) := (w10.trans (rdS_of hid_sub)).rd c _ rfl hr3
          refine ⟨_, rfl, .inl ⟨rfl, _, SqL.of hD10⟩, _, rfl, _, rfl, _, rfl, c, v, rfl, .inl ⟨k3, .inr j, hr10, rfl, (valV_get nd3 ek).symm⟩, l3_line, fun t ht => ?_⟩
          have htD : t ≠ D := (ne_of_none hD10 ht).symm
          have s11 : Same (hid D H10) (hid D (upd H10 t (.tup [V.str "put", kV (.inr j), v]))) := hid_mono fun b o _ e => same_upd ht b o e
          refine ⟨D, _, _, rfl, rfl, by rw [upd_ne htD.symm]; exact hD10, by rw [List.length_map]; exact lt_line (by omega), ?_⟩
          refine ⟨_, ts ++ [t], rfl, ?_, by rw [upd_same, List.map_append]; rfl, ?_⟩
          · rw [upd_hid]
            exact (s8.trans s810).trans s11
          · rw [upd_hid, take_filter _ e2, if_pos (by show (ch m1 m3 j && !ch m1 m2 j) = true; rw [c1, c2]; rfl), List.map_append, ← List.append_assoc]
            refine paired_app (Paired.mapP hts8 fun _ _ h => h.mono (rdS_of (s810.trans s11))) ?_
            refine ⟨v, ?_, hy.mono (w10.trans (rdS_of s11)), gdj, okj⟩
            rw [hid_ne htD, upd_same]
            rfl
      · rintro σ H8 ⟨x, ts, rfl, s8, hD8, hts8⟩
        have hc8 : H8 c = some (.frz od2 (.dK k3)) := by
          have := s8 c _ (by rw [hid_ne (Ne.symm hDc)]; exact h7)
          rw [hid_ne (Ne.symm hDc)] at this
          exact this
        refine ⟨hc8, fun H9 ec rs9 off9 => ?_⟩
        have w8 : RdS H3 (hid D H8) := w37.trans (rdS_of s8)
        have hD9 : H9 D = some (.lst (ts.map V.ref)) := by rw [off9 D hDc]; exact hD8
        rw [e3, List.take_length] at hts8
        have s39 : Same H3 H9 := fun x o e => by
          have h6 := s36 x o e
          have hxD : x ≠ D := ne_of_none e hD3
          by_cases hxc : x = c
          · subst hxc; rw [ec]; exact h6
          · rw [off9 x hxc]
            have h8 := s8 x o (by rw [hid_ne hxD, off7 x hxc]; exact h6)
            rw [hid_ne hxD] at h8
            exact h8
        refine ⟨_, rfl, _, rfl, b, D, m2, ts, _, rfl, (mapAt_ks hr2 hv2).mono (w8.trans ((rdS_of hid_sub).trans rs9)), o2.mono (by decide), hD9, Paired.mapP hts8 fun _ _ h => h.mono ((rdS_of hid_sub).trans rs9), ?_, fun H10 r s10 hm => ?_⟩
        · rw [List.length_append, List.length_map]
          have h2 := List.length_filter_le (fun q : Str × PyData => ch m1 m3 q.1 && !ch m1 m2 q.1) m3
          omega
        · refine q H10 r (sH3.trans (s39.trans s10)) hcf ?_
          unfold mrg mdeeds
          rw [hds1]
          exact hm.mono (rdS_of (fr_back (sH3.trans s39)))
    · refine ifT (by rw [decide_eq_false hks]; rfl) ?_
      refine ⟨_, rfl, p, _, rfl, .inl ⟨SqL.of hp3, fun t ht => ⟨_, rfl, fun d hd => ?_⟩⟩⟩
      have hdt : d ≠ t := fun z => by rw [z, upd_same] at hd; cases hd
      have sd : Same H (upd (upd H3 t (.tup (ks.map V.str))) d (gv (.ref t))) := sH3.trans ((same_upd ht).trans (same_upd hd))
      refine qx _ d t ks sd ?_ hcf hks hkl upd_same (by rw [upd_ne hdt.symm, upd_same])
      have := same_free (sH3.trans (same_upd ht)) hd
      exact this
end
end Mw

end

section
set_option Elab.async false
set_option linter.all false
set_option maxRecDepth 100000
set_option maxHeartbeats 4000000
/-! A generator's run up to its next item, what is behind it told by its own code. -/
namespace Mw
open PySem PySem.Spec PyProof.Rows L2 GenW
open Sem (wp)
abbrev Zt := Value → Shared → (Resume → Sem PySem.Fin) → Code → List Frame → Prop
def SgE (R : Result → Shared → Prop) (Z : Zt) (e : End) (s' : Shared) : Prop := match e with
  | .ret r => R r s'
  | .susp v g l k c p fs => (End.susp v g l k c p fs).quiet = true ∧ Z v s' k c fs
def Sgf (M : Model) (A : Around) (R : Result → Shared → Prop) (Z : Zt) (c : Code) (t : Sem PySem.Fin) (fs : List Frame) (s : Shared) : Prop :=
  ∀ (Γ : PySem.Ctx) (p : Pos), Γ.code = c → Γ.Woken A → ∃ e s', Runs M Γ p t fs s e s' ∧ SgE R Z e s'
section
variable {M : Model} {A : Around} {R R' : Result → Shared → Prop} {Z Z' : Zt} {c : Code} {fs : List Frame} {s : Shared} {env : Env}
theorem sgf_mono {t : Sem PySem.Fin} (h : Sgf M A R Z c t fs s) (hR : ∀ r s, R r s → R' r s) (hZ : ∀ v s k c fs, Z v s k c fs → Z' v s k c fs) : Sgf M A R' Z' c t fs s := fun Γ p hc hΓ => by
  obtain ⟨e, s', hr, he⟩ := h Γ p hc hΓ
  refine ⟨e, s', hr, ?_⟩
  cases e with
  | ret r => exact hR _ _ he
  | susp v g l k c p fs => exact ⟨he.1, hZ _ _ _ _ _ he.2⟩
theorem sgf_wrap {α : Type} {m : Sem α} {K : α → Sem PySem.Fin} {H : Value → Sem PySem.Fin} {gd lv}
    (h : wpAny M (A.over c fs) m (fun a s' => Sgf M A R Z c (K a) fs s') (fun x s' => Sgf M A R Z c (H x) fs s') s) :
    Sgf M A R Z c (m.wrap K H gd lv) fs s := by
  rintro Γ p rfl hΓ
  exact runs_wrap_of_wp K H gd lv m (h (Γ.over fs) p (hΓ.over fs)) (fun a p' s' h' => h' Γ p' rfl hΓ)
    (fun x p' s' h' => h' Γ p' rfl hΓ)
theorem sgf_bind {α : Type} {m : Sem α} {K : α → Sem PySem.Fin}
    (h : wpAny M (A.over c fs) m (fun a s' => Sgf M A R Z c (K a) fs s') (fun x s' => Sgf M A R Z c (.raise x) fs s') s) :
    Sgf M A R Z c (m >>= K) fs s := by
  rw [Sem.bind_eq_wrap']; exact sgf_wrap h
theorem sgf_at {p' : Pos} {k : Unit → Sem PySem.Fin} (h : Sgf M A R Z c (k ()) fs s) : Sgf M A R Z c (.at p' k) fs s :=
  sgf_wrap (m := standAt p') (K := k) (H := .raise) (gd := id) (lv := id) (wpAny_standAt h)
theorem sgf_point {l : List Value} {k : Unit → Sem PySem.Fin} (h : Sgf M A R Z c (k ()) fs s) : Sgf M A R Z c (.point l k) fs s :=
  sgf_wrap (m := point) (K := k) (H := .raise) (gd := id) (lv := fun _ => l) (wpAny_point h)
theorem sgf_call {c' : Code} {h g l} {k : Result → Sem PySem.Fin} (hc : ∀ p, Sgf M A R Z c' (M.den c') (.ret k h g l c p [] :: fs) s) :
    Sgf M A R Z c (.call c' h g l k) fs s := by
  rintro Γ p rfl hΓ
  obtain ⟨e, s', hr, he⟩ := (hc p) (Γ.goto c') p rfl (hΓ.goto c')
  exact ⟨e, s', runs_call_seg hr, he⟩
theorem sgf_leaf {k h g l c₁ p₁ kp} (r : Result) (hk : Sgf M A R Z c₁ (k r) fs s) : Sgf M A R Z c (leafOf r) (.ret k h g l c₁ p₁ kp :: fs) s := by
  rintro Γ p rfl hΓ
  obtain ⟨e, s', hr, he⟩ := hk (Γ.goto c₁) p₁ rfl (hΓ.goto c₁)
  exact ⟨e, s', Runs.pop r hr, he⟩
theorem sgf_again {c' : Code} (hq : c'.quiet = true) (hc : Sgf M A R Z c' (M.den c') fs s) : Sgf M A R Z c (.pure (.again c')) fs s := by
  rintro Γ p rfl hΓ
  obtain ⟨e, s', hr, he⟩ := hc (Γ.goto c') p rfl (hΓ.goto c')
  exact ⟨e, s', Runs.head (c₁ := c') (fun _ _ x => .again hq x) hr, he⟩
theorem sgf_end (r : Result) (h : R r s) : Sgf M A R Z c (leafOf r) [] s := by
  rintro Γ p rfl _
  exact ⟨.ret r, s, Runs.leaf r, h⟩
theorem sgf_yield {v g l} {k : Resume → Sem PySem.Fin} (hfs : splitAtGen fs = none) (hg : g = false) (hfg : fs.any Frame.guarded = false)
    (h : Z v s k c fs) : Sgf M A R Z c (.yield v g l k) fs s := by
  rintro Γ p rfl _
  exact ⟨_, s, Runs.yield' fs hfs, And.intro (by simp [End.quiet, hg, hfg]) h⟩
theorem sgf_execs_nil {K : Flow → Sem PySem.Fin} {H : Value → Sem PySem.Fin} {gd lv} (h : Sgf M A R Z c (K .next) fs s) : Sgf M A R Z c ((execs [] env).wrap K H gd lv) fs s := h
theorem sgf_execs_cons {st : Stmt} {rest : List Stmt} {K : Flow → Sem PySem.Fin} {H : Value → Sem PySem.Fin} {gd lv}
    (h : Sgf M A R Z c ((exec st env).wrap (fun f => match f with | .next => (execs rest env).wrap K H gd lv | f => K f) H gd lv) fs s) :
    Sgf M A R Z c ((execs (st :: rest) env).wrap K H gd lv) fs s := by rw [execs_cons_wrap]; exact h
theorem sgf_bind_wrap {α β : Type} {m : Sem α} {K : α → Sem β} {K' : β → Sem PySem.Fin} {H' : Value → Sem PySem.Fin} {gd lv}
    (h : wpAny M (A.over c fs) m (fun a s' => Sgf M A R Z c ((K a).wrap K' H' gd lv) fs s') (fun x s' => Sgf M A R Z c (H' x) fs s') s) : Sgf M A R Z c ((m >>= K).wrap K' H' gd lv) fs s := by
  rw [Sem.bind_eq_wrap', Sem.wrap_wrap]; exact sgf_wrap h
theorem sgfw_bind2 {α β γ : Type} {m : Sem α} {f : α → Sem β} {f2 : β → Sem γ} {K : γ → Sem PySem.Fin} {J : Value → Sem PySem.Fin} {gd : Bool → Bool} {lv : List Value → List Value}
    (h : wpAny M (A.over c fs) m (fun a s' => Sgf M A R Z c ((f a).wrap (fun b => (f2 b).wrap K J gd lv) J gd lv) fs s') (fun x s' => Sgf M A R Z c (J x) fs s') s) :
    Sgf M A R Z c (((m >>= f) >>= f2).wrap K J gd lv) fs s := by
  rw [Sem.bind_eq_wrap' (m >>= f) f2, Sem.wrap_wrap]
  exact sgf_bind_wrap h
end
theorem sgf_func {prog : Program} {w : World} {A : Around} {R : Result → Shared → Prop} {Z : Zt} {fs : List Frame} {s : Shared} {env : Env} {body : List Stmt}
    (h : Sgf (model prog w) A R Z (.func body env) ((execs body env).wrap (fun f => .pure (.done (.ret (match f with | .ret v => v | _ => .none))))
      (fun e => (leaving env e).wrap (fun _ => .raise e) .raise id id) id id) fs s) :
    Sgf (model prog w) A R Z (.func body env) ((model prog w).den (.func body env)) fs s := by
  show Sgf _ A R Z _ (.point [] fun _ => ((execs body env).onRaise (leaving env)) >>= _) fs s
  refine sgf_point ?_
  rw [Sem.onRaise_eq_wrap, Sem.bind_eq_wrap', Sem.wrap_wrap]
  rw [Sem.wrap_congr (execs body env) _ _ (K' := fun f => .pure (.done (.ret (match f with | .ret v => v | _ => .none))))
    (H' := fun e => (leaving env e).wrap (fun _ => .raise e) .raise id id) (fun f => by cases f <;> rfl)
    (fun e => by rw [Sem.bind_eq_wrap, Sem.wrap_wrap]; rfl)]
  exact h
def GoF (M : Model) (A : Around) (R : Result → Shared → Prop) (Z : Zt) (gs : GenState) (s : Shared) : Prop := match gs with
  | .fresh c => Sgf M A R Z c (M.den c) [] s
  | .suspended k _ c _ fs _ => Sgf M A R Z c (k (.send .none)) fs s
  | _ => False
theorem wpAny_resumeF {M : Model} {A : Around} {R : Result → Shared → Prop} {Z : Zt} {E : Value → Shared → Prop} {s : Shared} {g : Nat} {gs : GenState}
    {l : List Value} {α : Type} {k : GenResult → Sem α} {Q : α → Shared → Prop} (hg : s.gens[g]? = some gs)
    (hgo : GoF M A R Z gs (s.setGen g .running))
    (hR : ∀ x s₁, R x s₁ → wpAny M A (k (End.ret x).result) Q E (s₁.setGen g .finished))
    (hY : ∀ v s₁ k' l' c' p' fs' cl', (GenState.suspended k' l' c' p' fs' cl').bare = true → Z v s₁ k' c' fs' →
      wpAny M A (k (.yielded v)) Q E (s₁.setGen g (.suspended k' l' c' p' fs' cl'))) :
    wpAny M A (.resume g (.send .none) l k) Q E s := by
  intro Γ p hΓ
  rw [Sem.wp_resume]
  have hB : ∀ c, (Γ.wake c p).Woken A := fun c => hΓ.wake c p
  have fin : ∀ e₁ s₁, SgE R Z e₁ s₁ → wp M Γ (k e₁.result) (fun a _ s' => Q a s') (fun e _ s' => E e s') p (s₁.setGen g e₁.genState) := by
    intro e₁ s₁ he
    cases e₁ with
    | ret x => exact hR x s₁ he Γ p hΓ
    | susp v g₀ l₀ k₀ c₀ p₀ fs₀ => exact hY v s₁ _ _ _ _ _ _ (End.bare_of_quiet he.1) he.2 Γ p hΓ
  have hqt : ∀ e₁ s₁, SgE R Z e₁ s₁ → e₁.quiet = true := by
    intro e₁ s₁ he
    cases e₁ with
    | ret x => rfl
    | susp v g₀ l₀ k₀ c₀ p₀ fs₀ => exact he.1
  cases gs with
  | fresh c =>
    obtain ⟨e₁, s₁, hr, he⟩ := hgo (Γ.wake c p) p rfl (hB c)
    exact ⟨_, _, by unfold Wakes; rw [hg]; exact ⟨e₁, s₁, hr, hqt e₁ s₁ he, rfl, rfl⟩, fin e₁ s₁ he⟩
  | suspended k₀ l₀ c₀ p₀ fs₀ cl =>
    obtain ⟨e₁, s₁, hr, he⟩ := hgo (Γ.wake c₀ p) p₀ rfl (hB c₀)
    exact ⟨_, _, by unfold Wakes; rw [hg]; exact ⟨e₁, s₁, hr, hqt e₁ s₁ he, rfl, rfl⟩, fin e₁ s₁ he⟩
  | running => exact hgo.elim
  | finished => exact hgo.elim
section
variable {P : Program} {w : World} {A : Around} {E : Value → Shared → Prop} {s : Shared}
theorem nextF {a : Addr} {g : Nat} {gs : GenState} {F : Shared → Prop} {Z : Zt} {Q : Option Value → Shared → Prop} (hh : A.handled = none)
    (hl : s.heap.NoLimit) (hroom : A.depth < recursionLimit) (hg : s.heap.IsGen a g) (hgs : s.gens[g]? = some gs)
    (hgo : GoF (model P w) A.in1 (fun r s₁ => (r = .ok (.ret .none) ∨ r = .ok .next) ∧ F s₁) Z gs (s.setGen g .running))
    (hY : ∀ v s₁ k' l' c' p' fs' cl', (GenState.suspended k' l' c' p' fs' cl').bare = true → Z v s₁ k' c' fs' → Q (some v) (s₁.setGen g (.suspended k' l' c' p' fs' cl')))
    (hP : ∀ s₁, F s₁ → ∀ h', (∀ b o, s₁.heap.get? b = some o → h'.get? b = some o) → Q none { s₁.setGen g .finished with heap := h' }) :
    wpAny (model P w) A (pyNext (.ref a)) Q E s := by
  unfold pyNext
  refine wpAny_bind (wpAny_attempt (wpAny_callSpecial?_slot (name := Str.ofString "__next__") hg.typeIs slot_gen_next
    (wpAny_call_entry slot_gen_next hg.typeIs entry_gen_next ?_ (args_gen_next _))))
  show wpAny _ A.in1 (Builtin.Generator.genWake (.ref a) (.send .none)) _ _ s
  unfold Builtin.Generator.genWake
  refine wpAny_bind (wpAny_holding (wpAny_genNumber hg (wpAny_bind (wpAny_genState hgs ?_))))
  cases gs with
  | running => exact hgo.elim
  | finished => exact hgo.elim
  | _ =>
    refine wpAny_bind (wpAny_roomToWake hl hroom ?_)
    show wpAny _ A.in1 (.resume g (.send .none) [] _) _ _ s
    refine wpAny_resumeF hgs hgo (fun x s₁ hx => ?_) (fun v s₁ k' l' c' p' fs' cl' hb hv => ?_)
    · obtain ⟨hr, hp⟩ := hx
      have hres : End.result (.ret x) = .returned .none := by
        rcases hr with hr | hr <;> rw [hr] <;> rfl
      first | rw [hres] | simp only [hres]
      show wpAny _ A.in1 (newExc (.type "StopIteration") [] >>= _) _ _ _
      refine wpAny_bind ?_
      simp only [newExc, newTuple]
      refine wpAny_bind (wpAny_newObj_type ?_ (by size_fits))
      refine wpAny_bind (m := firstArgMember _ _) (wpAny_of_eq (a := Value.none) (by first | rfl | (simp only [firstArgMember]; rfl)) ?_)
      refine wpAny_newObj_type ?_ (by size_fits)
      simp only [raiseNew]
      refine wpAny_bind (wpAny_bind (wpAny_handled ?_))
      first | rw [show A.in1.handled = none from hh] | rw [hh]
      refine wpAny_throw ?_
      refine wpAny_bind (wpAny_isInstance (T := "StopIteration") (b := true) ⟨_, Heap.get?_push_size _ rfl, rfl⟩ isSubtype_stop ?_)
      exact wpAny_pure (hP s₁ hp _ fun b o hb => Heap.get?_push_of_some _ (Heap.get?_push_of_some _ hb))
    · exact wpAny_pure ⟨v, rfl, wpAny_pure (hY v s₁ k' l' c' p' fs' cl' hb hv)⟩
end
/-! ### the list's iterator under yield from -/
section
variable {prog : Program} {w : World} {A : Around} {E : Value → Shared → Prop} {s : Shared}
theorem special_list_item {it t : Addr} {i : Nat} {items : Array Value} {x : Value} {Q : Option Value → Shared → Prop} (hit : s.heap.IsListIter it t i) (ht : s.heap.IsList t items) (hx : items[i]? = some x)
    (hQ : ∀ h', h'.IsListIter it t (i + 1) → Heap.SameBut it s.heap h' → Q (some x) { s with heap := h' }) : wpAny (model prog w) A (callSpecial? (.ref it) "__next__") Q E s := by
  obtain ⟨o, ho, hc, hd⟩ := id hit
  obtain ⟨ol, hol, _, nl, hdl⟩ := ht
  refine wpAny_callSpecial?_slot (name := Str.ofString "__next__") hit.typeIs slot_listiter_next (wpAny_call_entry slot_listiter_next hit.typeIs entry_listiter_next ?_ (args_listiter_next _))
  show wpAny _ _ (field (.ref it) 0 >>= _) _ _ s
  refine wpAny_bind (wpAny_field ho hd (x := .ref t) rfl ?_)
  show wpAny _ _ (if (Value.ref t == Value.none) = true then _ else _) _ _ s
  rw [if_neg (show ¬ ((Value.ref t == Value.none) = true) from Bool.false_ne_true)]
  show wpAny _ _ (field (.ref it) 1 >>= _) _ _ s
  refine wpAny_bind (wpAny_field ho hd (x := .int i 0) rfl ?_)
  show wpAny _ _ (seqItems? (.ref t) >>= _) _ _ s
  refine wpAny_bind (wpAny_seqItems hol hdl ?_)
  simp only [Int.toNat_natCast, hx]
  refine wpAny_bind (wpAny_setField ho hd (by simp) (wpAny_pure ⟨x, rfl, hQ _ ?_ (Heap.SameBut.update ..)⟩))
  exact ⟨_, Heap.get?_update_self _ ho (Obj.isFreed_of_fields (Obj.data_mapFields hd _)), (Obj.cls_mapFields ..).trans hc, by
    rw [Obj.data_mapFields hd]; simp [rawInt]⟩
theorem special_list_end {it t : Addr} {i : Nat} {items : Array Value} {Q : Option Value → Shared → Prop} (hh : A.handled = none) (hit : s.heap.IsListIter it t i) (ht : s.heap.IsList t items) (hx : items[i]? = none)
    (hE : ∀ e h', StopX e h' → Heap.ExtBut it s.heap h' → E e { s with heap := h' }) : wpAny (model prog w) A (callSpecial? (.ref it) "__next__") Q E s := by
  obtain ⟨o, ho, hc, hd⟩ := id hit
  obtain ⟨ol, hol, _, nl, hdl⟩ := ht
  refine wpAny_callSpecial?_slot (name := Str.ofString "__next__") hit.typeIs slot_listiter_next (wpAny_call_entry slot_listiter_next hit.typeIs entry_listiter_next ?_ (args_listiter_next _))
  show wpAny _ _ (field (.ref it) 0 >>= _) _ _ s
  refine wpAny_bind (wpAny_field ho hd (x := .ref t) rfl ?_)
  show wpAny _ _ (if (Value.ref t == Value.none) = true then _ else _) _ _ s
  rw [if_neg (show ¬ ((Value.ref t == Value.none) = true) from Bool.false_ne_true)]
  show wpAny _ _ (field (.ref it) 1 >>= _) _ _ s
  refine wpAny_bind (wpAny_field ho hd (x := .int i 0) rfl ?_)
  show wpAny _ _ (seqItems? (.ref t) >>= _) _ _ s
  refine wpAny_bind (wpAny_seqItems hol hdl ?_)
  simp only [Int.toNat_natCast, hx]
  refine wpAny_bind (wpAny_rule (wpAny_bind (wpAny_setField ho hd (by simp) ?_)))
  show wpAny _ _ (newExc (.type "StopIteration") [] >>= _) _ _ _
  refine wpAny_bind ?_
  simp only [newExc, newTuple]
  refine wpAny_bind (wpAny_newObj_type ?_ (by size_fits))
  refine wpAny_bind (m := firstArgMember _ _) (wpAny_of_eq (a := Value.none) (by first | rfl | (simp only [firstArgMember]; rfl)) ?_)
  refine wpAny_newObj_type ?_ (by size_fits)
  simp only [raiseNew]
  refine wpAny_bind (wpAny_handled ?_)
  first | rw [show A.in1.handled = none from hh] | rw [hh]
  refine wpAny_bind (wpAny_pure (wpAny_throw ?_))
  refine hE _ _ ⟨_, _, _, rfl, Heap.get?_push_size _ rfl, rfl, rfl, ?_⟩ (((Heap.SameBut.update ..).extBut.push _).push _)
  first
    | rfl
    | (rw [Array.getElem?_append_left (by decide)]; rfl)
    | kernel_rfl
end
theorem close_list : typeLookup (.type "list_iterator") "close" = pure none := by rw [typeLookup_type, builtinLookup_eq_fast]; kernel_rfl
/-- only the iterator has turned -/
structure Kept (it : Addr) (s₀ s : Shared) : Prop where
  os : s.os = s₀.os
  gens : s.gens = s₀.gens
  keep : ∀ b o, b ≠ it → s₀.heap.get? b = some o → s.heap.get? b = some o
abbrev cYf (it : Addr) : Code := .builtin "proto.yield_from" ⟨[.ref it, .bool false, .none], []⟩
def okr (r : Result) : Prop := r = .ok (.ret .none) ∨ r = .ok .next
/-- what is behind the item before j: r items more -/
def Lat (M : Model) (A : Around) (it p : Addr) (items : Array Value) : Nat → Nat → (Resume → Sem PySem.Fin) → Code → List Frame → Prop
  | 0, j, k, c, fs => ∀ s₀ : Shared, s₀.heap.IsListIter it p j → s₀.heap.IsList p items → Sgf M A (fun r s => okr r ∧ Kept it s₀ s) (fun _ _ _ _ _ => False) c (k (.send .none)) fs s₀
  | r + 1, j, k, c, fs => ∀ s₀ : Shared, s₀.heap.IsListIter it p j → s₀.heap.IsList p items → Sgf M A (fun _ _ => False)
      (fun v s k' c' fs' => items[j]? = some v ∧ Kept it s₀ s ∧ s.heap.IsListIter it p (j + 1) ∧ s.heap.IsList p items ∧ Lat M A it p items r (j + 1) k' c' fs') c (k (.send .none)) fs s₀
/-- a run of yield from, from item j on -/
def Run (M : Model) (A : Around) (it p : Addr) (items : Array Value) (r j : Nat) (fs : List Frame) (s₀ : Shared) : Prop := match r with
  | 0 => Sgf M A (fun r s => okr r ∧ Kept it s₀ s) (fun _ _ _ _ _ => False) (cYf it) (M.den (cYf it)) fs s₀
  | r + 1 => Sgf M A (fun _ _ => False) (fun v s k' c' fs' => items[j]? = some v ∧ Kept it s₀ s ∧ s.heap.IsListIter it p (j + 1) ∧ s.heap.IsList p items ∧ Lat M A it p items r (j + 1) k' c' fs') (cYf it) (M.den (cYf it)) fs s₀
theorem run_yf {P : Program} {w : World} {A : Around} {it p : Addr} {items : Array Value} {fs : List Frame} (hip : p ≠ it)
    (ho : (A.over (cYf it) fs).handled = none) (hsp : splitAtGen fs = none) (hgd : fs.any Frame.guarded = false)
    (hend : ∀ (R : Result → Shared → Prop) (Z : Zt) (s : Shared), R (.ok (.ret .none)) s → Sgf (model P w) A R Z (cYf it) (.pure (.done (.ret .none))) fs s) :
    ∀ (r j : Nat), j + r = items.size → ∀ s₀ : Shared, s₀.heap.IsListIter it p j → s₀.heap.IsList p items → Run (model P w) A it p items r j fs s₀ := by
  have den : (model P w).den (cYf it) = Builtin.«proto.yield_from» ⟨[.ref it, .bool false, .none], []⟩ := by
    show (match entryFor table "proto.yield_from" with | some b => b ⟨[.ref it, .bool false, .none], []⟩ | none => unsupported ((withoutEnding? "proto.yield_from" "#data").getD "proto.yield_from")) = _
    rw [entry_yf]
  intro r
  induction r with
  | zero =>
    intro j hj s₀ hit hl
    show Sgf _ _ _ _ _ _ _ _
    rw [den]
    unfold Builtin.«proto.yield_from»
    try dsimp only
    refine sgf_bind (wpAny_pure ?_)
    try dsimp only
    refine sgf_bind (wpAny_attempt (wpAny_holding ?_))
    rw [if_neg Bool.false_ne_true, if_pos (show (Value.none == Value.none) = true from rfl)]
    refine wpAny_bind (wpAny_rule (wpAny_bind ?_))
    refine special_list_end ho hit hl (by simp; omega) fun e h' hS hk => ?_
    obtain ⟨a, o, vs, rfl, hoa, hcls, hdat, h5⟩ := hS
    try dsimp only
    refine sgf_bind (wpAny_endsTurn hoa hcls ?_)
    try dsimp only
    rw [if_pos rfl]
    first
      | refine sgf_bind (wpAny_rule ?_)
      | (rw [if_neg Bool.false_ne_true]; refine sgf_bind (wpAny_rule ?_))
      | (rw [if_neg Bool.false_ne_true]; refine sgf_bind (wpAny_pure ?_); refine sgf_bind (wpAny_rule ?_))
    refine sgf_bind (wpAny_field hoa hdat h5 ?_)
    exact hend _ _ _ ⟨.inl rfl, rfl, rfl, fun b o hb e => hk b o hb e⟩
  | succ r ih =>
    intro j hj s₀ hit hl
    show Sgf _ _ _ _ _ _ _ _
    have hjl : j < items.size := by omega
    rw [den]
    unfold Builtin.«proto.yield_from»
    try dsimp only
    refine sgf_bind (wpAny_pure ?_)
    try dsimp only
    refine sgf_bind (wpAny_attempt (wpAny_holding ?_))
    rw [if_neg Bool.false_ne_true, if_pos (show (Value.none == Value.none) = true from rfl)]
    refine wpAny_bind (wpAny_rule (wpAny_bind ?_))
    refine special_list_item hit hl (x := items[j]) (by simp [hjl]) fun h' hit' hk => ?_
    obtain ⟨oi, hoi, hoc, hod⟩ := id hit'
    refine wpAny_pure ?_
    try dsimp only
    refine sgf_bind (wpAny_typeOf (T := "list_iterator") ⟨oi, hoi, hoc⟩ ?_)
    try dsimp only
    first
      | (refine sgf_bind (wpAny_of_eq close_list ?_); refine sgf_bind (wpAny_pure ?_))
      | refine sgf_bind (wpAny_bind (wpAny_of_eq close_list (wpAny_pure ?_)))
      | refine sgf_bind (wpAny_of_eq close_list ?_)
    try dsimp only
    refine sgf_bind (wpAny_sleptOver hoi hoc (by decide) ?_)
    have hl' : Heap.IsList h' p items := hl.extBut hk.extBut hip
    refine sgf_yield hsp rfl hgd ⟨by simp [hjl], ⟨rfl, rfl, fun b o hb e => hk.extBut b o hb e⟩, hit', hl', ?_⟩
    have again : ∀ s'' : Shared, s''.heap.IsListIter it p (j + 1) → s''.heap.IsList p items → ∀ {R : Result → Shared → Prop} {Z : Zt}, Sgf (model P w) A R Z (cYf it) ((model P w).den (cYf it)) fs s'' →
        Sgf (model P w) A R Z (cYf it) (Builtin.Generator.sleptOver (.ref it) false >>= fun _ => (pure () : Sem Unit) >>= fun _ => (.pure (.again (cYf it)) : Sem PySem.Fin)) fs s'' := fun s'' hi'' hl'' R Z h => by
      obtain ⟨oj, hoj, hojc, _⟩ := id hi''
      refine sgf_bind (wpAny_sleptOver hoj hojc (by decide) ?_)
      refine sgf_bind (wpAny_pure ?_)
      exact sgf_again (plainId_quiet plain_yf _) h
    cases r with
    | zero => exact fun s'' hi'' hl'' => again s'' hi'' hl'' (ih (j + 1) (by omega) s'' hi'' hl'')
    | succ r => exact fun s'' hi'' hl'' => again s'' hi'' hl'' (ih (j + 1) (by omega) s'' hi'' hl'')
end Mw

end

section
set_option Elab.async false
set_option linter.all false
set_option maxRecDepth 100000
set_option maxHeartbeats 4000000
/-! conflicts: a generator by yield from a list. -/
namespace Mw
open PySem PySem.Spec PyProof.Rows L2 GenW
abbrev sCf : Stmt := top 31
theorem scCf : GScope ["base", "one", "other"] ["base", "one", "other"] (defScope sCf) := ⟨rfl, rfl, rfl, by decide +kernel, rfl, by decide +kernel, by decide +kernel⟩
/-- the run ends without an item -/
def FEnd (w : World) (outer : List Env) (H : Hp) (sc : Shared) (Qd : List V → Hp → Prop) (s : Shared) : Prop :=
  ∃ H', s.os = sc.os ∧ AllBare s.gens ∧ Un (frs outer) [] H H' sc.heap s.heap ∧ HOk pW w H' s.heap ∧ Qd [] H'
/-- the run comes to its first item -/
def FItem (w : World) (A : Around) (outer : List Env) (H : Hp) (sc : Shared) (a g : Nat) (Qd : List V → Hp → Prop) (v : Value) (s : Shared) (k : Resume → Sem PySem.Fin) (c : Code) (fs : List Frame) : Prop :=
  ∃ (H' : Hp) (p it : Addr) (items : Array Value) (xs : List V), s.os = sc.os ∧ AllBare s.gens ∧ s.heap.NoLimit ∧ s.heap.IsGen a g ∧ Un (frs outer) [] H H' sc.heap s.heap ∧ HOk pW w H' s.heap ∧ H' it = none ∧ sc.heap.objs.size ≤ it ∧ H' a = none ∧ it ≠ a ∧
    Vals xs items.toList ∧ s.heap.IsListIter it p 1 ∧ s.heap.IsList p items ∧ H' p = some (.lst xs) ∧ H p = none ∧ items[0]? = some v ∧ Lat (model pW w) A it p items (items.size - 1) 1 k c fs ∧ Qd xs H'
/-- a generator that has not begun -/
def GUp (w : World) (k : Nat) (outer : List Env) (H : Hp) (s : Shared) (Qd : List V → Hp → Prop) (u : Value) (s' : Shared) : Prop :=
  ∃ (a g : Nat) (c : Code), u = .ref a ∧ s.heap.objs.size ≤ a ∧ a < s'.heap.objs.size ∧ s'.heap.IsGen a g ∧ s'.gens[g]? = some (.fresh c) ∧ s'.os = s.os ∧ AllBare s'.gens ∧ s'.heap.NoLimit ∧ (∀ b o, s.heap.get? b = some o → s'.heap.get? b = some o) ∧
    ∀ (A : Around) (s2 : Shared), Room k A → A.frames = some outer → (∀ b o, s'.heap.get? b = some o → s2.heap.get? b = some o) → s2.os = s.os → AllBare s2.gens →
      Sgf (model pW w) A (fun r s3 => okr r ∧ FEnd w outer H s Qd s3) (FItem w A outer H s a g Qd) c ((model pW w).den c) [] s2
def spCf (vs : List V) (H : Hp) (Qd : List V → Hp → Prop) : Prop := ∃ (a b c : Addr) (m1 m2 m3 : Mp), vs = [.ref a, .ref b, .ref c] ∧ MapAt H a m1 ∧ MapAt H b m2 ∧ MapAt H c m3 ∧ OkM 12 m1 ∧ OkM 12 m2 ∧ OkM 12 m3 ∧
  ∀ H' ks, Same H H' → IsCf m1 m2 m3 ks → ks.length ≤ 40 → Qd (ks.map V.str) H'
def cfS : Stmt := (defBody sCf).getD 0 (.Pass ⟨0, 0, 0, 0⟩)
def cfE : Expr := match (defBody sCf).getD 1 (.Pass ⟨0, 0, 0, 0⟩) with
  | .Expr (.YieldFrom e _) _ => e
  | _ => .Constant .none 0 ⟨0, 0, 0, 0⟩
theorem sgf_of_run {M : Model} {A : Around} {it p : Addr} {items : Array Value} {fs : List Frame} {s₀ : Shared} {R : Result → Shared → Prop} {Z : Zt} (h : Run M A it p items items.size 0 fs s₀)
    (h0 : items.size = 0 → ∀ r s, okr r → Kept it s₀ s → R r s) (h1 : ∀ v s k c fs', items[0]? = some v → Kept it s₀ s → s.heap.IsListIter it p 1 → s.heap.IsList p items → Lat M A it p items (items.size - 1) 1 k c fs' → Z v s k c fs') :
    Sgf M A R Z (cYf it) (M.den (cYf it)) fs s₀ := by
  cases e : items.size with
  | zero =>
    rw [e] at h
    have h : Sgf _ _ _ _ _ _ _ _ := h
    exact sgf_mono h (fun r s q => h0 e r s q.1 q.2) fun _ _ _ _ _ q => q.elim
  | succ n =>
    rw [e] at h
    have h : Sgf _ _ _ _ _ _ _ _ := h
    refine sgf_mono h (fun _ _ q => q.elim) fun v s k c fs' q => h1 v s k c fs' q.1 q.2.1 q.2.2.1 q.2.2.2.1 ?_
    rw [e]
    exact q.2.2.2.2
section
variable {w : World} {K : PySem.W.Frag} {mg : Str → Option Value} {base : Heap} {f fc fa : Addr} {fd fad : FuncData}
/-- the text of conflicts -/
theorem cf_text : ∃ (x1 x2 : Expr) (p1 p2 yp : Pos), defBody sCf = [.Expr x1 p1, .Expr (.YieldFrom x2 yp) p2] := ⟨_, _, _, _, _, rfl⟩
theorem ok_cf (F : Df K mg "conflicts" sCf ["base", "one", "other"] f fd) (CM : Fun K "check_mappings" "check_mappings" sCM fc fcd) (mC : mg "check_mappings" = some (.ref fc)) (AC : Df K mg "all_conflicts" sAC ["base", "one", "other"] fa fad)
    (GC : FnR pW w K mg base CX0 5 fc spCM) (GA : FnOk pW w K mg base CX0 7 fa fad ["base", "one", "other"] spAC)
    {A : Around} {outer : List Env} {s : Shared} {H : Hp} {us : List Value} {vs : List V} {Qd : List V → Hp → Prop} (hr : Room 8 A) (e0 : Env0 pW w K mg base A outer s H) (r : Vals vs us) (hsp : spCf vs H Qd) :
    codeAny (model pW w) A (.call (.ref f) ⟨us, []⟩) (fun r s' => match r with | .ok (.ret u) => GUp w 8 outer H s Qd u s' | _ => False) s := by
  obtain ⟨oc, od, kV, doc, pm, an, cdv, ct, osl, rfl, lk, hcd⟩ := F.fn.ex
  have hl : vs.length = ["base", "one", "other"].length := by obtain ⟨a, b, c, m1, m2, m3, rfl, _⟩ := hsp; rfl
  have hlu : us.length = ["base", "one", "other"].length := by rw [← r.length]; exact hl
  have KX : K.In s.heap := e0.mod.kin.keeps fun b o e => (e0.bs b o e).1
  have lim : s.heap.NoLimit := e0.mod.nolimit.keeps fun b o e => (e0.bs b o e).1
  have S := scCf
  have hkind : ∀ y ∈ (["base", "one", "other"] : List Str).zip us, (defScope sCf).names.lookup y.1 = some .local ∨ ((defScope sCf).names.lookup y.1 = some .cell ∧ ((cellsFrom (s.heap.objs.size + 1) (defScope sCf).names []).lookup y.1).isSome = true) := fun ⟨n, v⟩ hy => by
    rcases S.par n (List.of_mem_zip hy).1 with q | q
    · exact .inl q
    · exact .inr ⟨q, PySem.W.cellsFrom_some _ _ _ (.inl q)⟩
  have hb := F.b s us KX (by rw [List.append_nil]; exact hlu)
  rw [List.append_nil] at hb
  refine codeAny_call_generator hr.depth (KX _ _ lk) rfl S.co S.gen rfl (PySem.W.codeRec_of KX hcd) (hb _ _ _ _ ?_)
  refine wpAny_newFunctionEnv_cells S.kind hkind fun env he s1 x => ?_
  subst he
  have lim1 : s1.heap.NoLimit := lim.keeps x.toInCall.keep
  refine ⟨lim1, ?_⟩
  obtain ⟨h1, tk, es1, hk1⟩ := x.done
  have os1 : s1.os = s.os := by rw [es1]
  have gen1 : s1.gens = s.gens := by rw [es1]
  have lt1 : s.heap.objs.size < s1.heap.objs.size := x.toInCall.ns.lt
  have sz1 : s.heap.objs.size ≤ s1.heap.objs.size := Nat.le_of_lt lt1
  have kp1 : ∀ b o, s.heap.get? b = some o → s1.heap.get? b = some o := x.toInCall.keep
  have main : ∀ (go : Obj) (nm qn : Value) (tk2 : Nat), go.cls = .type "generator" → go.data = .fields #[.int s1.gens.size 0, nm, qn] → go.slots = #[] → (∀ h : Heap, (h.push go).get? h.objs.size = some go) →
      GUp w 8 outer H s Qd (.ref s1.heap.objs.size) { s1 with gens := s1.gens.push (.fresh (.func (defBody sCf) (envOfC "conflicts" (defScope sCf) s.heap.objs.size f cdv))), toks := tk2, heap := s1.heap.push go } := by
    intro go nm qn tk2 hgc hgd0 hgs hgp
    have hgen : ∀ h : Heap, h.get? s1.heap.objs.size = some go → h.IsGen s1.heap.objs.size s1.gens.size := fun h e => ⟨go, nm, qn, e, hgc, hgd0, hgs⟩
    have hpushed : (s1.heap.push go).get? s1.heap.objs.size = some go := hgp _
    refine ⟨s1.heap.objs.size, s1.gens.size, _, rfl, sz1, ?_, hgen _ hpushed, Array.getElem?_push_size .., os1, ?_, lim1.keeps fun b o e => Heap.get?_push_of_some _ e, fun b o e => Heap.get?_push_of_some _ (kp1 b o e), ?_⟩
    · show _ < (s1.heap.push _).objs.size
      rw [Heap.size_push]; exact Nat.lt_succ_self _
    · exact AllBare.push (by rw [gen1]; exact e0.bare) rfl
    intro Aw s2 hrw hfr hk2 hos hba
    have e0w : Env0 pW w K mg base Aw outer s H := ⟨hfr, e0.mod, e0.bs, e0.bsz, e0.funs, e0.frf, e0.hok, e0.bare⟩
    have I1 : Inv (gcxOf pW w K mg base ["base", "one", "other"] "conflicts" (defScope sCf) f cdv Aw outer s H (fun _ _ _ => False) []) [] (start ["base", "one", "other"] vs) H s1 := inv_startG S hrw.hd e0w hl r x
    have kp2 : ∀ b o, s1.heap.get? b = some o → s2.heap.get? b = some o := fun b o e => hk2 b o (Heap.get?_push_of_some _ e)
    have I2 : Inv (gcxOf pW w K mg base ["base", "one", "other"] "conflicts" (defScope sCf) f cdv Aw outer s H (fun _ _ _ => False) []) [] (start ["base", "one", "other"] vs) H s2 :=
      I1.call' (ch := []) (hos.trans os1.symm) (Un.kept kp2) (I1.hok.kept kp2) hba fun b z => by simp at z
    have hea : s2.heap.get? s1.heap.objs.size = some go := hk2 s1.heap.objs.size go hpushed
    have hgd : ∀ v, go.data ≠ .cell v := fun v q => by rw [hgd0] at q; cases q
    have yH : H s1.heap.objs.size = none := I1.hok.fresh (Nat.le_refl _)
    have I3 : Inv (gcxOf pW w K mg base ["base", "one", "other"] "conflicts" (defScope sCf) f cdv Aw outer s H (fun _ _ _ => False) [(s1.heap.objs.size, go)]) [] (start ["base", "one", "other"] vs) H s2 :=
      Inv.pinnedG I2 fun p hp => by
        rcases List.mem_append.mp hp with z | z
        · rw [List.mem_singleton.mp z]
          exact ⟨hea, yH, Nat.ne_of_gt lt1, I1.nofs (Nat.le_refl _), hgd⟩
        · cases z
    have hrX := hrw.deeper (envOfC "conflicts" (defScope sCf) s.heap.objs.size f cdv)
    obtain ⟨a, b, c, m1, m2, m3, rfl, ha, hbb, hc, o1, o2, o3, q⟩ := hsp
    refine sgf_func ?_
    refine sgf_execs_cons ?_
    refine sgf_wrap ?_
    rw [over_func]
    let X : Cx := (gcxOf pW w K mg base ["base", "one", "other"] "conflicts" (defScope sCf) f cdv Aw outer s H (fun _ _ _ => False) [(s1.heap.objs.size, go)]).nox
    obtain ⟨t1, d1, r1⟩ : ∃ t, PS X cfS t ∧ t { nx := fun σ' H' => σ' = [some (.ref a), some (.ref b), some (.ref c)] ∧ Same H H', rt := fun _ _ => False } (start ["base", "one", "other"] [V.ref a, V.ref b, V.ref c]) H :=
      ⟨_, ps_expr (pe_callR GC (hrX.mono (by decide)) rfl mC CM.kp pass0 (pa_cons (pv 0) (pa_cons (pv 1) (pa_cons (pv 2) pa_nil)))),
        ⟨_, rfl, _, rfl, _, rfl, [a, b, c], [m1, m2, m3], rfl, (by show 3 ≤ 3; decide), .cons ⟨ha, o1.mono (by decide)⟩ (.cons ⟨hbb, o2.mono (by decide)⟩ (.cons ⟨hc, o3.mono (by decide)⟩ .nil)), fun H1 s1 => ⟨rfl, s1⟩⟩⟩
    refine wpAny_mono (d1.run [] s2 _ H _ (I3.wish _) r1) (fun fl s4 h4 => ?_) (fun _ _ z => False.elim z)
    cases fl with
    | brk => obtain ⟨_, _, _, q⟩ := h4; exact False.elim q
    | cont => obtain ⟨_, _, _, q⟩ := h4; exact False.elim q
    | ret u => obtain ⟨_, _, _, _, _, q⟩ := h4; exact False.elim q
    | next =>
    obtain ⟨σ4, H4, I4, rfl, sH4⟩ := h4
    have w4 := rdS_of sH4
    obtain ⟨t2, d2, r2⟩ : ∃ t, PE X cfE t ∧ t [some (.ref a), some (.ref b), some (.ref c)] H4 (fun v H' => ∃ p ks, v = .ref p ∧ Same H H' ∧ H p = none ∧ H' p = some (.lst (ks.map V.str)) ∧ Qd (ks.map V.str) H') :=
      ⟨_, pe_call GA hrX rfl AC.m AC.fn.kp AC.b .nil pass0 (pa_cons (pv 0) (pa_cons (pv 1) (pa_cons (pv 2) pa_nil))),
        ⟨_, rfl, _, rfl, _, rfl, a, b, c, m1, m2, m3, rfl, ha.mono w4, hbb.mono w4, hc.mono w4, o1, o2, o3, fun H' p ks s' hpn hp hcf hkl => ⟨p, ks, rfl, sH4.trans s', sH4.free hpn, hp, q H' ks (sH4.trans s') hcf hkl⟩⟩⟩
    refine sgf_execs_cons ?_
    rw [exec_Expr (envOfC "conflicts" (defScope sCf) s.heap.objs.size f cdv) _ _ rfl rfl]
    show Sgf _ _ _ _ _ (.at _ fun _ => ((eval cfE (envOfC "conflicts" (defScope sCf) s.heap.objs.size f cdv) >>= fun v => (standAt _ >>= fun _ => yieldFrom (envOfC "conflicts" (defScope sCf) s.heap.objs.size f cdv) v)) >>= fun x => dropValue (.YieldFrom cfE _) _ x).wrap _ _ _ _) [] s4
    refine sgf_at ?_
    refine sgfw_bind2 ?_
    rw [over_func]
    refine wpAny_mono (d2.run [] s4 _ H4 _ I4 r2) (fun v s5 h5 => ?_) (fun _ _ z => False.elim z)
    obtain ⟨xv, H5, I5, rx, p, ks, rfl, sH5, hpn, hp5, hq5⟩ := h5
    obtain rfl : v = Value.ref p := rx
    refine sgf_at ?_
    show Sgf _ _ _ _ _ ((yieldFrom (envOfC "conflicts" (defScope sCf) s.heap.objs.size f cdv) (.ref p)).wrap _ _ _ _) [] s5
    unfold yieldFrom
    obtain ⟨its, rits, pl, hzl⟩ := I5.list (SqL.of hp5)
    have hil := pl.isList
    refine sgf_bind_wrap (wpAny_typeOf hil.typeIs ?_)
    rw [if_neg (by decide)]
    refine sgf_bind_wrap (wpAny_holding ?_)
    refine wpAny_pyIter_list hil ?_
    refine sgf_call fun pos => ?_
    have hpl : p < s5.heap.objs.size := let ⟨_, ho, _⟩ := hil; Heap.lt_size ho
    have k5 : ∀ {s7 : Shared}, Kept s5.heap.objs.size { s5 with heap := s5.heap.push { cls := .type "list_iterator", data := .fields #[.ref p, .int 0 0] } } s7 → ∀ b o, s5.heap.get? b = some o → s7.heap.get? b = some o := fun {s7} k b o e =>
      k.keep b o (Nat.ne_of_lt (Heap.lt_size e)) (Heap.get?_push_of_some _ e)
    have hlen : (ks.map V.str).length = its.length := rits.length
    refine sgf_of_run (p := p) (items := its.toArray) ?_ (fun h0 r s7 hr7 k => ⟨hr7, H5, ?_, ?_, ?_, ?_, ?_⟩) (fun v s7 k' c' fs' e0' k hi7 hl7 hlat => ⟨H5, p, s5.heap.objs.size, its.toArray, ks.map V.str, ?_, ?_, ?_, ?_, ?_, ?_, ?_, ?_, ?_, ?_, ?_, hi7, hl7, hp5, hpn, e0', hlat, hq5⟩)
    · refine run_yf (P := pW) (Nat.ne_of_lt hpl) ?_ rfl rfl (fun R Z s h => ?_) _ 0 (Nat.zero_add _) _ ⟨_, Heap.get?_push_size _ rfl, rfl, rfl⟩ (hil.push _)
      · show (Aw.over _ _).handled = none
        rw [over_handled, over_func]
        exact hrX.hd
      · exact sgf_leaf (.ok (.ret .none)) (sgf_end (.ok (.ret .none)) h)
    · exact k.os.trans I5.os
    · rw [k.gens]; exact I5.bare
    · exact I5.base.trans (Un.kept (k5 k))
    · exact I5.hok.kept (k5 k)
    · have e : ks = [] := by
        have h0' : its.length = 0 := by simpa using h0
        rw [List.length_map] at hlen
        exact List.length_eq_zero_iff.mp (by omega)
      rw [e] at hq5
      exact hq5
    · exact k.os.trans I5.os
    · rw [k.gens]; exact I5.bare
    · exact I5.nolimit.keeps (k5 k)
    · exact hgen _ (k5 k _ _ (I5.pin (s1.heap.objs.size, go) (List.mem_append_left _ (List.mem_singleton.mpr rfl))).1)
    · exact I5.base.trans (Un.kept (k5 k))
    · exact I5.hok.kept (k5 k)
    · exact I5.hok.fresh (Nat.le_refl _)
    · exact I5.sz
    · exact (I5.pin (s1.heap.objs.size, go) (List.mem_append_left _ (List.mem_singleton.mpr rfl))).2.1
    · exact Nat.ne_of_gt (Heap.lt_size (I5.pin (s1.heap.objs.size, go) (List.mem_append_left _ (List.mem_singleton.mpr rfl))).1)
    · simpa using rits
  exact main _ _ _ _ rfl rfl rfl fun h => Heap.get?_push_size _ rfl
end
end Mw

end

section
set_option Elab.async false
set_option linter.all false
set_option maxRecDepth 100000
set_option maxHeartbeats 4000000
/-! for x in conflicts(..): found.append(x). -/
namespace Mw
open PySem PySem.Spec PyProof.Rows L2 GenW
section
variable {X : Cx} {pins : List (Addr × Obj)} {σ : L2.St} {H : Hp} {s : Shared}
/-- a local name, loaded: nothing changes -/
theorem ldv {i : Nat} {x : Str} {pos : Pos} {v : V} {Q : Value → Shared → Prop} {E : Value → Shared → Prop} (I : Inv X pins σ H s) (hN : X.N[i]? = some x) (hv : Vis X.env.scope x) (e : σ[i]? = some (some v)) (h : ∀ u, RelV v u → Q u s)
    (hd : (x == ("__debug__" : Str)) = false := by decide) (hcd : (x == ("__classdict__" : Str)) = false := by decide) : wpAny (model X.prog X.w) X.A (eval (.Name x pos) X.env) Q E s := by
  obtain ⟨m, hn, hl⟩ := I.loc
  obtain ⟨u, r, l⟩ := hl i x v hN e hv
  have fin := h u r
  rcases l with ⟨hk, hm⟩ | ⟨hk, c, hc, hcell⟩
  · exact wpAny_Name (wpAny_loadName_local I.ok.kind hk hn hm fin) hd
  · rcases hk with hk | hk
    · exact wpAny_Name (wpAny_loadName_cell I.ok.kind hk hc hcell fin) hd
    · exact wpAny_Name (wpAny_loadName_free I.ok.kind hk hc hcell fin hcd) hd
/-- a local name, stored: its frame alone changes -/
theorem store_raw {M : Model} {A : Around} {E : Value → Shared → Prop} {i : Nat} {x : Str} {v : V} {u : Value} {Q : Unit → Shared → Prop} (I : Inv X pins σ H s) (hN : X.N.Nodup) (hi : X.N[i]? = some x) (hk : X.env.scope.names.lookup x = some .local) (r : RelV v u)
    (h : ∀ h', Inv X pins (σ.set i (some v)) H { s with heap := h', toks := s.toks + 1 } → Heap.SameBut X.env.locals s.heap h' → Q () { s with heap := h', toks := s.toks + 1 }) : wpAny M A (storeName X.env x u) Q E s := by
  obtain ⟨m, hn, hl⟩ := id I.loc
  have hcls : (X.env.scope.kind == .class || (X.env.scope.kind == .module && X.env.locals != X.env.globals)) = false := by rw [I.ok.kind]; rfl
  have hiσ : i < σ.length := by rw [I.len]; exact (List.getElem?_eq_some_iff.mp hi).1
  have cne := I.cne
  have tracked : ∀ {a : Addr} {h' : Heap}, (∃ o, s.heap.get? a = some o ∧ H a = none) → Heap.SameBut a s.heap h' → HOk X.prog X.w H h' := fun {a h'} ha hs b ob e => by
    obtain ⟨_, _, hfree⟩ := ha
    refine (I.hok b ob e).stay (fun c w' hc q => (hs.2 c ?_).trans q) (fun _ q => q) fun _ _ q => q
    rintro rfl
    rcases hc with rfl | hc
    · rw [hfree] at e; cases e
    · rw [hfree] at hc; cases hc
  refine wpAny_storeName_local hk hn (fun h' hn' hs => ?_) hcls
  obtain ⟨oL, _, _, hoL, _⟩ := id hn
  refine h _ ⟨I.ok, I.os, I.bare, ⟨fun b o e n hb hx => ?_, fun b o e n hb hx => ?_, I.base.free, fun b o e hx => ?_, I.base.tups, I.base.frzs, I.base.tbls⟩, ⟨_, hn', fun j y v' e1 e2 e3 => ?_⟩, fun y c e => ?_, I.free, I.freeC, fun p hp => ?_, tracked ⟨oL, hoL, I.free⟩ hs, by simpa using I.len⟩ hs
  · exact (hs.2 b (Nat.ne_of_lt (Nat.lt_of_lt_of_le (Heap.lt_size e) I.ok.above))).trans (I.base.keep b o e n hb hx)
  · obtain ⟨sl, e1⟩ := I.base.slot b o e n hb hx
    exact ⟨sl, (hs.2 b (Nat.ne_of_lt (Nat.lt_of_lt_of_le (Heap.lt_size e) I.ok.above))).trans e1⟩
  · obtain ⟨o', e1⟩ := I.base.there b o e hx
    exact ⟨o', (hs.2 b (Nat.ne_of_lt (Nat.lt_of_lt_of_le (Heap.lt_size e) I.ok.above))).trans e1⟩
  · by_cases hj : j = i
    · subst hj
      rw [hi] at e1; cases e1
      rw [List.getElem?_set_self hiσ] at e2
      cases e2
      exact ⟨u, r, .inl ⟨hk, by simp⟩⟩
    · rw [List.getElem?_set_ne (Ne.symm hj)] at e2
      obtain ⟨u', r', q⟩ := hl j y v' e1 e2 e3
      refine ⟨u', r', ?_⟩
      rcases q with ⟨k, e⟩ | ⟨k, c, e, z⟩
      · refine .inl ⟨k, ?_⟩
        have : y ≠ x := fun e => hj (nodup_ix hN e1 (e ▸ hi))
        simp [this, e]
      · exact .inr ⟨k, c, e, z.sameBut hs (cne y c e)⟩
  · obtain ⟨w', z⟩ := I.cell y c e
    exact ⟨w', z.sameBut hs (cne y c e)⟩
  · obtain ⟨e, n, ne, nf, d⟩ := I.pin p hp
    exact ⟨(hs.2 p.1 ne).trans e, n, ne, nf, d⟩
/-- found.append(x): the list alone changes -/
theorem app_raw {E : Value → Shared → Prop} {i j : Nat} {xf xk : Str} {p1 p2 p3 pos : Pos} {S : Addr} {xs : List V} {v : V} {Q : Value → Shared → Prop} (I : Inv X pins σ H s) (hi : X.N[i]? = some xf) (hvi : Vis X.env.scope xf) (hj : X.N[j]? = some xk) (hvj : Vis X.env.scope xk)
    (ei : σ[i]? = some (some (.ref S))) (ej : σ[j]? = some (some v)) (hS : H S = some (.lst xs)) (hz : xs.length < 16000)
    (h : ∀ h', Inv X pins σ (upd H S (.lst (xs ++ [v]))) { s with heap := h' } → (∀ b o, b ≠ S → s.heap.get? b = some o → h'.get? b = some o) → Q .none { s with heap := h' })
    (hbase : attributeBase (.Name xf p1) "append" X.env (eval (.Name xf p1) X.env) = eval (.Name xf p1) X.env := by rfl)
    (hline : (p2.endLine == pos.line) = true := by rfl) (hs : starEach [Expr.Name xk p3] X.env = (false, eval (.Name xk p3) X.env) :: starEach [] X.env := by rfl)
    (hfew : ((backTo pos (starEach [Expr.Name xk p3] X.env)).all (fun x => !x.1) && (backToKw pos (keywordEach [] X.env)).all (fun x => x.1.isSome)
      && decide ([Expr.Name xk p3].length + ([] : List Keyword).length + (if ([] : List Keyword).isEmpty then 0 else 1) < 30)) = true := by rfl)
    (hd : (xf == ("__debug__" : Str)) = false := by decide) (hcd : (xf == ("__classdict__" : Str)) = false := by decide) (hd2 : (xk == ("__debug__" : Str)) = false := by decide) (hcd2 : (xk == ("__classdict__" : Str)) = false := by decide) :
    wpAny (model X.prog X.w) X.A (eval (.Call (.Attribute (.Name xf p1) "append" p2) [.Name xk p3] [] pos) X.env) Q E s := by
  refine wpAny_Call_method_late hbase hfew hline rfl (ldv I hi hvi ei (fun u ru => ?_) hd hcd)
  obtain rfl : u = Value.ref S := ru
  obtain ⟨h1, h2⟩ := tyV_is (T := "list") I (x := .ref S) rfl (.inl ⟨rfl, xs, SqL.of hS⟩)
  refine ⟨"list", _, PySem.F.plainAttrs_list, PySem.F.slot_list_append, PySem.F.type_list_append, h1, h2, ?_⟩
  rw [hs]
  refine Calls.callWith_builtin rfl (Calls.evalArgs_plain ?_)
  refine Calls.spliced_cons (ldv I hj hvj ej (fun w rw' => ?_) hd2 hcd2)
  refine Calls.spliced_nil ?_
  obtain ⟨z, its, n, r, hl, e⟩ := I.lstM hS
  refine call_meets F.slot_list_append ⟨_, e, rfl⟩ F.entry_list_append (F.args_list_append_2 _ _) (PySem.list_append S its.toArray n w (by rw [List.size_toArray]; omega)) ⟨e, ?_⟩
  refine h _ (I.lset (its' := its ++ [w]) (t' := s.toks) hS e (by simp) (r.append (.cons rw' .nil)) ?_) fun b o hb eb => (Heap.get?_update_other _ _ (Ne.symm hb)).trans eb
  rw [List.length_append, List.length_singleton]
  exact le_line (by omega)
/-- an iterator turned that is none of ours -/
theorem stepIt {it : Addr} {s' : Shared} (I : Inv X pins σ H s) (hit : X.s_0.heap.objs.size ≤ it) (hL : it ≠ X.env.locals) (hc : ∀ x c, X.env.cells.lookup x = some c → c ≠ it) (hp : ∀ p ∈ X.pn ++ pins, p.1 ≠ it) (hH : H it = none)
    (os : s'.os = s.os) (hb : AllBare s'.gens) (k : ∀ b o, b ≠ it → s.heap.get? b = some o → s'.heap.get? b = some o) : Inv X pins σ H s' := by
  obtain ⟨hh, g, d, t, o⟩ := s'
  have ho : o = s.os := os
  subst ho
  have nc : ∀ b, b ∉ [it] → b ≠ it := fun b hb e => hb (by rw [e]; exact List.mem_singleton.mpr rfl)
  have nt : ∀ b u, H b = some u → b ≠ it := fun b u q hb => by rw [hb, hH] at q; cases q
  refine I.step (g' := g) (t' := t) (d' := d) (ch := [it]) (fun b hb => ?_)
    (fun b ob _ _ hc q _ => k b ob (nc b hc) q) (fun b ob _ _ hc q _ => ⟨ob.slots, k b ob (nc b hc) q⟩) (fun _ _ _ _ n => n) (fun b ob hc q => ⟨ob, k b ob (nc b hc) q⟩)
    (fun _ _ q => q) (fun _ _ _ q => q) (fun b ps q => ⟨#[], by rw [q]; simp⟩) (fun m hm => ?_) (fun b u q => ?_) hb
  · rw [List.mem_singleton.mp hb]
    exact ⟨.inr hit, hL, hc, hp⟩
  · obtain ⟨ob, es, ep, ho, r⟩ := hm
    exact ⟨ob, es, ep, k _ ob (Ne.symm hL) ho, r⟩
  · refine (I.hok b u q).stay (fun c v hc y => k c v ?_ y) (fun _ y => y) fun _ _ y => y
    rcases hc with y | y
    · rw [y]; exact nt b u q
    · exact nt c _ y
end
end Mw

end

section
set_option Elab.async false
set_option linter.all false
set_option maxRecDepth 100000
set_option maxHeartbeats 4000000
/-! The loop over conflicts(..). -/
namespace Mw
open PySem PySem.Spec PyProof.Rows L2 GenW
theorem upd_upd {H : Hp} {p : Addr} {o o' : HO} : upd (upd H p o) p o' = upd H p o' := by
  funext b
  by_cases h : b = p
  · rw [h, upd_same, upd_same]
  · rw [upd_ne h, upd_ne h, upd_ne h]
theorem upd_id {H : Hp} {p : Addr} {o : HO} (e : H p = some o) : upd H p o = H := by
  funext b
  by_cases h : b = p
  · rw [h, upd_same, e]
  · rw [upd_ne h]
theorem vals_at {i : Nat} {v : Value} : ∀ {xs : List V} {us : List Value}, Vals xs us → us[i]? = some v → ∃ x, xs[i]? = some x ∧ RelV x v := by
  intro xs us h
  induction h generalizing i with
  | nil => intro e; simp at e
  | cons r t ih =>
    intro e
    cases i with
    | zero => cases e; exact ⟨_, rfl, r⟩
    | succ i => obtain ⟨x, h1, h2⟩ := ih (i := i) (by simpa using e); exact ⟨x, by simpa using h1, h2⟩
def tForG (i j : Nat) (t : TA) : TS := fun D σ H => t σ H fun vs H1 => ∃ S acc, σ[i]? = some (some (.ref S)) ∧ H1 S = some (.lst acc) ∧ acc.length ≤ 1000 ∧
  spCf vs H1 (fun out H2 => out.length ≤ 1000 ∧ H2 S = some (.lst acc) ∧ ∀ y, D.nx (σ.set j y) (upd H2 S (.lst (acc ++ out))))
section
variable {X : Cx} {f : Addr} {i j : Nat} {xf xk x : Str} {p p1 p2 p3 p4 p5 p6 pos pos2 : Pos} {e : Expr} {es : List Expr} {t : TA}
theorem ps_forG (hpr : X.prog = pW) (hp : PassesOwn (model X.prog X.w) X.A X.env X.xe) (hr : Room 9 X.A) (hN : X.N.Nodup) (hi : X.N[i]? = some xf) (hvi : Vis X.env.scope xf) (hj : X.N[j]? = some xk) (hjl : X.env.scope.names.lookup xk = some .local) (hij : i ≠ j)
    (call : ∀ {A : Around} {outer : List Env} {s : Shared} {H : Hp} {us : List Value} {vs : List V} {Qd : List V → Hp → Prop}, Room 8 A → Env0 X.prog X.w X.K X.mg X.base A outer s H → Vals vs us → spCf vs H Qd →
      codeAny (model X.prog X.w) A (.call (.ref f) ⟨us, []⟩) (fun r s' => match r with | .ok (.ret u) => GUp X.w 8 outer H s Qd u s' | _ => False) s)
    (hg : Gl X x) (hm : X.mg x = some (.ref f)) (hk : PySem.W.keepIn X.K (.ref f) = true) (ha : PA X (e :: es) t) (hdb : (x == ("__debug__" : Str)) = false := by decide)
    (he : starEach (e :: es) X.env = (false, eval e X.env) :: starEach es X.env := by rfl) (hpl : (backTo pos (starEach es X.env)).any (·.1) = false := by rfl)
    (hbase : attributeBase (.Name xf p2) "append" X.env (eval (.Name xf p2) X.env) = eval (.Name xf p2) X.env := by rfl)
    (hline : (p3.endLine == p5.line) = true := by rfl) (hs1 : starEach [Expr.Name xk p4] X.env = (false, eval (.Name xk p4) X.env) :: starEach [] X.env := by rfl)
    (hfew : ((backTo p5 (starEach [Expr.Name xk p4] X.env)).all (fun x => !x.1) && (backToKw p5 (keywordEach [] X.env)).all (fun x => x.1.isSome)
      && decide ([Expr.Name xk p4].length + ([] : List Keyword).length + (if ([] : List Keyword).isEmpty then 0 else 1) < 30)) = true := by rfl)
    (hd : (xf == ("__debug__" : Str)) = false := by decide) (hcd : (xf == ("__classdict__" : Str)) = false := by decide) (hd2 : (xk == ("__debug__" : Str)) = false := by decide) (hcd2 : (xk == ("__classdict__" : Str)) = false := by decide)
    (hsw : swapsWith (.Call (.Attribute (.Name xf p2) "append" p3) [.Name xk p4] [] p5) none p6.line X.env = pure false := by rfl)
    (hs : ∀ v, foldedSetIterable (.Call (.Name x p) (e :: es) [] pos) X.env v = pure v := by intro _; rfl) :
    PS X (.For (.Name xk p1) (.Call (.Name x p) (e :: es) [] pos) [.Expr (.Call (.Attribute (.Name xf p2) "append" p3) [.Name xk p4] [] p5) p6] [] pos2) (tForG i j t) := by
  refine ⟨fun pins s σ H D I h => ?_⟩
  refine wpAny_For ?_ hs
  refine wpAny_Call_Name_kw (ld_glob I hg hm ?_ hdb)
  refine PySem.W.callWith_K (h₀ := X.base) I.ok.mod.kin hk (thn (ha.run pos pins s σ H _ I h) fun us s1 ⟨vs, H1, I1, r, S, acc, eS, hS, hacc, q⟩ => ⟨I1.kIn, ?_⟩) he hpl
  refine wpAny_call (codeAny_mono (call (hr.mono (by decide)) I1.env0 r q) fun rr s2 h2 => ?_)
  cases rr with
  | error er => exact False.elim h2
  | ok fl =>
  cases fl with
  | next => exact False.elim h2
  | brk => exact False.elim h2
  | cont => exact False.elim h2
  | ret u =>
  obtain ⟨a, g, c, rfl, ha1, ha2, hgn, hgs, hos, hbr, hlm, hkp, wake⟩ := h2
  refine wpAny_pyIter_gen hgn ?_
  -- places
  have hLlt : X.env.locals < s1.heap.objs.size := I1.lt
  obtain ⟨_, its0, n0, _, _, eS1⟩ := I1.lstM hS
  have hSlt : S < s1.heap.objs.size := Heap.lt_size eS1
  have hSL : S ≠ X.env.locals := fun z => by rw [z, I1.free] at hS; cases hS
  have hσj : j < σ.length := by rw [I1.len]; exact (List.getElem?_eq_some_iff.mp hj).1
  have fpi : ∀ it, s1.heap.objs.size ≤ it → X.s_0.heap.objs.size ≤ it ∧ it ≠ X.env.locals ∧ (∀ x c, X.env.cells.lookup x = some c → c ≠ it) ∧ ∀ p ∈ X.pn ++ pins, p.1 ≠ it := fun it hit =>
    ⟨Nat.le_trans I1.sz hit, Nat.ne_of_gt (Nat.lt_of_lt_of_le hLlt hit), fun y c e => by
      obtain ⟨v, o, ho, _⟩ := I1.cell y c e
      exact Nat.ne_of_lt (Nat.lt_of_lt_of_le (Heap.lt_size ho) hit), fun p hp => Nat.ne_of_lt (Nat.lt_of_lt_of_le (Heap.lt_size (I1.pin p hp).1) hit)⟩
  have hii : ∀ y, (σ.set j y)[i]? = some (some (.ref S)) := fun y => by rw [List.getElem?_set_ne (Ne.symm hij)]; exact eS
  have hjj : ∀ y, (σ.set j (some y))[j]? = some (some y) := fun y => List.getElem?_set_self hσj
  have hh : X.A.handled = none := hr.hd
  have hdp : X.A.depth < recursionLimit := by have := hr.dp; omega
  have hr8 : Room 8 X.A.in1 := hr.in1
  have hfr : X.A.in1.frames = some X.stack := I1.ok.frames
  -- one turn's store and body
  have turnDo : ∀ {xs0 : List V} {H2 : Hp} {y : Option V} {xv : V} {v : Value} {s3 : Shared} {R : Shared → Prop}, L2.Inv X pins (σ.set j y) H2 s3 → H2 S = some (.lst xs0) → xs0.length < 16000 → RelV xv v → s3.heap.IsGen a g →
      (∀ s5 : Shared, L2.Inv X pins (σ.set j (some xv)) (upd H2 S (.lst (xs0 ++ [xv]))) s5 → s5.gens = s3.gens → (∀ b o, b ≠ S → b ≠ X.env.locals → s3.heap.get? b = some o → s5.heap.get? b = some o) → R s5) →
      ∀ {F1 F2 F3 : Value → Shared → Prop} {B : Shared → Prop} {B2 : Value → Shared → Prop}, wpAny (model X.prog X.w) X.A (letOwnedTupleGo (.Name xk p1) (.ref a) v) (fun _ s1' => wpAny (model X.prog X.w) X.A (assign (.Name xk p1) X.env v)
        (fun _ s2 => wpAny (model X.prog X.w) X.A (execs [.Expr (.Call (.Attribute (.Name xf p2) "append" p3) [.Name xk p4] [] p5) p6] X.env) (fun f s3 => match f with
          | .next | .cont => R s3
          | .brk => B s3
          | .ret v => B2 v s3) F3 s2) F2 s1') F1 s3 := by
    intro xs0 H2 y xv v s3 R J hS2 hz rv hgn3 hR F1 F2 F3 B B2
    obtain ⟨go, nm, qn, hgo, hgc, hgd, _⟩ := id hgn3
    refine go_of hgo hgc hgd (by decide) ?_
    refine wpAny_assign_Name (store_raw J hN hj hjl rv fun h4 J4 sb4 => ?_)
    rw [List.set_set] at J4
    refine wpAny_execs_cons (wpAny_Expr_any (app_raw (S := S) (xs := xs0) J4 hi hvi hj (.inl hjl) (hii _) (hjj _) hS2 hz (fun h5 J5 k5 => ?_) hbase hline hs1 hfew hd hcd hd2 hcd2) J4.quiet hsw)
    exact wpAny_execs_nil (hR _ J5 rfl fun b o hb hbL e => k5 b o hb ((sb4.2 b hbL).trans e))
  let inv : Nat → Shared → Prop := fun n s' => (n = 2000 ∧ s' = s2) ∨ (∃ (H2 : Hp) (p it : Addr) (items : Array Value) (xs : List V) (y : V) (jn : Nat) (k : Resume → Sem PySem.Fin) (l : List Value) (c : Code) (pp : Pos) (fs : List Frame) (cl : Bool),
    n = items.size - jn ∧ jn ≤ items.size ∧ items.size ≤ 1000 ∧ L2.Inv X pins (σ.set j (some y)) (upd H2 S (.lst (acc ++ xs.take jn))) s' ∧ s'.gens[g]? = some (.suspended k l c pp fs cl) ∧ Lat (model pW X.w) X.A.in1 it p items (items.size - jn) jn k c fs ∧
    s'.heap.IsListIter it p jn ∧ s'.heap.IsList p items ∧ s'.heap.IsGen a g ∧ Vals xs items.toList ∧ H2 S = some (.lst acc) ∧ H2 it = none ∧ H2 p = some (.lst xs) ∧ p ≠ S ∧ s1.heap.objs.size ≤ it ∧ ∀ y, D.nx (σ.set j y) (upd H2 S (.lst (acc ++ xs))))
  refine codeAny_forLoop_any inv ?_ 2000 (.inl ⟨rfl, rfl⟩)
  rintro n s' (⟨rfl, rfl⟩ | ⟨H2, p, it, items, xs, y, jn, k, l, c, pp, fs, cl, rfl, hjn, hz, J, hgs', hlat, hit, hil, hgn', hvs, hS2, hH2it, hp2, hpS, hitb, hfin⟩)
  · -- the first item
    have hgl : g < s'.gens.size := (Array.getElem?_eq_some_iff.mp hgs).1
    have hwk := wake X.A.in1 (s'.setGen g .running) hr8 hfr (fun b o e => e) hos (allBare_setGen hbr rfl)
    refine wpAny_passesOwn hp (wpAny_gsz (n := g + 1) hgl (nextF (P := X.prog) hh hlm hdp hgn hgs (F := FEnd X.w X.stack H1 s1 _) (Z := FItem X.w X.A.in1 X.stack H1 s1 a g _) (by rw [hpr]; exact hwk) (fun v s3 k' l' c' p' fs' cl' hbare hZ hsz => ?_) (fun s3 hF h' hk' hsz => ?_)))
    · obtain ⟨H2, pa, it, items, xs, hos3, hb3, hlm3, hgn3, un3, hok3, hHit, hitb, hHa, hita, hvs, hit, hil, hp2, hpn, hi0, hlat, hlo, hS2, hfin⟩ := hZ
      have J3 : L2.Inv X pins σ H2 (s3.setGen g (.suspended k' l' c' p' fs' cl')) := I1.call' (ch := []) hos3 un3 (by rw [hpr]; exact hok3) (allBare_setGen hb3 hbare) fun b z => by simp at z
      obtain ⟨y0, hy0⟩ : ∃ y, σ = σ.set j y := ⟨σ[j], (List.set_getElem_self hσj).symm⟩
      rw [hy0] at J3
      have hi0' : items.toList[0]? = some v := by rw [Array.getElem?_toList]; exact hi0
      obtain ⟨xv, hx0, rv⟩ := vals_at hvs hi0'
      have hlen : xs.length = items.size := by have := hvs.length; simpa using this
      have hxl : 0 < xs.length := (List.getElem?_eq_some_iff.mp hx0).1
      refine turnDo J3 hS2 (by omega) rv hgn3 fun s5 J5 hg5 k5 => ?_
      have hszg : g < s3.gens.size := by
        have q : (s3.setGen g (.suspended k' l' c' p' fs' cl')).gens.size = s3.gens.size := setGen_size _ _ _
        omega
      have etk : xs.take 1 = [xv] := by
        have := take_succ hx0
        simpa using this
      have hpS : pa ≠ S := fun z => by rw [z, hS] at hpn; cases hpn
      refine ⟨items.size - 1, by omega, .inr ⟨H2, pa, it, items, xs, xv, 1, k', l', c', _, fs', cl', rfl, by omega, by omega, by rw [etk]; exact J5, by rw [hg5]; exact setGen_at hszg, hlat, ?_, ?_, ?_, hvs, hS2, hHit, hp2, hpS, hitb, hfin⟩⟩
      · obtain ⟨o, ho, r⟩ := hit
        exact ⟨o, k5 _ o (Nat.ne_of_gt (Nat.lt_of_lt_of_le hSlt hitb)) (Nat.ne_of_gt (Nat.lt_of_lt_of_le hLlt hitb)) ho, r⟩
      · obtain ⟨o, ho, r⟩ := hil
        exact ⟨o, k5 _ o hpS (fun z => by rw [z, J3.free] at hp2; cases hp2) ho, r⟩
      · obtain ⟨o, nm, qn, ho, r⟩ := hgn3
        exact ⟨o, nm, qn, k5 _ o (Nat.ne_of_gt (Nat.lt_of_lt_of_le hSlt ha1)) (Nat.ne_of_gt (Nat.lt_of_lt_of_le hLlt ha1)) ho, r⟩
    · obtain ⟨H2, hos3, hb3, un3, hok3, hlo, hS2, hfin⟩ := hF
      have J3 : L2.Inv X pins σ H2 { s3.setGen g .finished with heap := h' } := I1.call' (ch := []) hos3 (un3.trans (Un.kept hk')) (by rw [hpr]; exact hok3.kept hk') (allBare_setGen hb3 rfl) fun b z => by simp at z
      obtain ⟨y0, hy0⟩ : ∃ y, σ = σ.set j y := ⟨σ[j], (List.set_getElem_self hσj).symm⟩
      have q := hfin y0
      rw [List.append_nil, upd_id hS2, ← hy0] at q
      exact wpAny_execs_nil ⟨σ, H2, J3, q⟩
  · -- a further item, or the end
    have hgl : g < s'.gens.size := (Array.getElem?_eq_some_iff.mp hgs').1
    have hlen : xs.length = items.size := by have := hvs.length; simpa using this
    obtain ⟨f1, f2, f3, f4⟩ := fpi it hitb
    have hHS : upd H2 S (.lst (acc ++ xs.take jn)) it = none := by rw [upd_ne (Nat.ne_of_gt (Nat.lt_of_lt_of_le hSlt hitb))]; exact hH2it
    have hpL : p ≠ X.env.locals := fun z => by
      have := J.free
      rw [← z, upd_ne hpS, hp2] at this
      cases this
    by_cases hjz : jn < items.size
    · obtain ⟨rr, hrr⟩ : ∃ rr, items.size - jn = rr + 1 := ⟨items.size - jn - 1, by omega⟩
      rw [hrr] at hlat
      have hgo := hlat (s'.setGen g .running) hit hil
      refine wpAny_passesOwn hp (wpAny_gsz (n := g + 1) hgl (nextF (P := X.prog) hh J.nolimit hdp hgn' hgs' (F := fun _ => False) (by rw [hpr]; exact sgf_mono hgo (fun _ _ z => False.elim z) fun _ _ _ _ _ z => z) (fun v s3 k' l' c' p' fs' cl' hbare hZ hsz => ?_) (fun s3 hF h' hk' hsz => False.elim hF)))
      obtain ⟨hv, kk, hit3, hil3, hlat3⟩ := hZ
      have J3 : L2.Inv X pins (σ.set j (some y)) (upd H2 S (.lst (acc ++ xs.take jn))) (s3.setGen g (.suspended k' l' c' p' fs' cl')) := stepIt J f1 f2 f3 f4 hHS kk.os (allBare_setGen (by rw [kk.gens]; exact allBare_setGen J.bare rfl) hbare) kk.keep
      have hv' : items.toList[jn]? = some v := by rw [Array.getElem?_toList]; exact hv
      obtain ⟨xv, hxv, rv⟩ := vals_at hvs hv'
      have hgn3 : s3.heap.IsGen a g := by
        obtain ⟨o, nm, qn, ho, r⟩ := hgn'
        obtain ⟨oi, hoi, hic, _⟩ := id hit
        exact ⟨o, nm, qn, kk.keep _ o (fun z => by
          have ho' : s'.heap.get? it = some o := by rw [← z]; exact ho
          rw [hoi] at ho'
          cases ho'
          rw [hic] at r
          exact absurd r.1 (by decide)) ho, r⟩
      have hl16 : (acc ++ xs.take jn).length < 16000 := by
        rw [List.length_append, List.length_take]
        omega
      refine turnDo J3 upd_same hl16 rv hgn3 fun s5 J5 hg5 k5 => ?_
      rw [upd_upd, List.append_assoc, ← take_succ hxv] at J5
      have hszg : g < s3.gens.size := by
        have q : (s3.setGen g (.suspended k' l' c' p' fs' cl')).gens.size = s3.gens.size := setGen_size _ _ _
        omega
      have err : items.size - (jn + 1) = rr := by omega
      refine ⟨items.size - (jn + 1), by omega, .inr ⟨H2, p, it, items, xs, xv, jn + 1, k', l', c', _, fs', cl', rfl, hjz, hz, J5, by rw [hg5]; exact setGen_at hszg, by rw [err]; exact hlat3, ?_, ?_, ?_, hvs, hS2, hH2it, hp2, hpS, hitb, hfin⟩⟩
      · obtain ⟨o, ho, r⟩ := hit3
        exact ⟨o, k5 _ o (Nat.ne_of_gt (Nat.lt_of_lt_of_le hSlt hitb)) (Nat.ne_of_gt (Nat.lt_of_lt_of_le hLlt hitb)) ho, r⟩
      · obtain ⟨o, ho, r⟩ := hil3
        exact ⟨o, k5 _ o hpS hpL ho, r⟩
      · obtain ⟨o, nm, qn, ho, r⟩ := hgn3
        exact ⟨o, nm, qn, k5 _ o (Nat.ne_of_gt (Nat.lt_of_lt_of_le hSlt ha1)) (Nat.ne_of_gt (Nat.lt_of_lt_of_le hLlt ha1)) ho, r⟩
    · have ejn : jn = items.size := by omega
      subst ejn
      rw [Nat.sub_self] at hlat
      have hgo := hlat (s'.setGen g .running) hit hil
      refine wpAny_passesOwn hp (nextF (P := X.prog) hh J.nolimit hdp hgn' hgs' (F := fun s₁ => Kept it (s'.setGen g .running) s₁) (by rw [hpr]; exact sgf_mono hgo (fun _ _ z => z) fun _ _ _ _ _ z => z) (fun v s3 k' l' c' p' fs' cl' hbare hZ => False.elim hZ) (fun s3 kk h' hk' => ?_))
      have J3 : L2.Inv X pins (σ.set j (some y)) (upd H2 S (.lst (acc ++ xs.take items.size))) { s3.setGen g .finished with heap := h' } := stepIt J f1 f2 f3 f4 hHS kk.os (allBare_setGen (by rw [kk.gens]; exact allBare_setGen J.bare rfl) rfl) fun b o hb e => hk' b o (kk.keep b o hb e)
      rw [← hlen, List.take_length] at J3
      exact wpAny_execs_nil ⟨_, _, J3, hfin _⟩
end
end Mw

end

section
set_option Elab.async false
set_option linter.all false
set_option maxRecDepth 100000
set_option maxHeartbeats 4000000
/-! Promises of defs that run where no guard stands (repr asks for it); repr of data. -/
namespace Mw
open PySem PySem.Spec PyProof.Rows L2
structure FnG (P : Program) (w : World) (K : PySem.W.Frag) (mg : Str → Option Value) (base : Heap) (CX : CXT) (k : Nat) (f : Addr) (fd : FuncData) (ps : List Str) (sp : Sp) : Prop where
  len : ∀ vs H Q E, sp vs H Q E → vs.length = ps.length
  run : ∀ (A : Around) (outer : List Env) (s : Shared) (H : Hp) (args : Args) (us : List Value) (vs : List V) (Q : VK) (E : XK), A.guards = some [] → Room k A → Env0 P w K mg base A outer s H → BindsTo s fd args (ps.zip us) → Vals vs us → sp vs H Q E →
    codeAny (model P w) A (.call (.ref f) args) (CR CX outer P w H s Q E) s
section
variable {P : Program} {w : World} {K : PySem.W.Frag} {mg : Str → Option Value} {base : Heap}
theorem FnG.of {CX : CXT} {k : Nat} {f : Addr} {fd : FuncData} {ps : List Str} {sp : Sp} (F : FnOk P w K mg base CX k f fd ps sp) : FnG P w K mg base CX k f fd ps sp :=
  ⟨F.len, fun A outer s H args us vs Q E _ => F.run A outer s H args us vs Q E⟩
/-- a def by its body -/
theorem fn0G {x qual : Str} {st : Stmt} {f : Addr} {fd : FuncData} {N ps : List Str} {k : Nat} {sp : Sp} (F : Fun K x qual st f fd) (S : FnScope N ps (defScope st)) (len : ∀ vs H Q E, sp vs H Q E → vs.length = ps.length)
    (hbody : ∀ (cdv : Value) (A : Around) (outer : List Env) (s : Shared) (H : Hp) (vs : List V) (Q : VK) (E : XK), A.guards = some [] → Room k (A.deeper (envOfC qual (defScope st) s.heap.objs.size f cdv)) → sp vs H Q E →
      ∃ t, PSs (cxOf CX0 P w K mg base N qual (defScope st) f cdv A outer s H E).nox (defBody st) t ∧ t { nx := fun _ H' => Q .non H', rt := Q } (start N vs) H) : FnG P w K mg base CX0 (k + 1) f fd ps sp := by
  obtain ⟨oc, od, kV, doc, pm, an, cdv, ct, osl, rfl, lk, hcd⟩ := F.ex
  refine ⟨len, fun A outer s H args us vs Q E hgd hr e0 hb r hsp => ?_⟩
  obtain ⟨t, ht0, hq⟩ := hbody cdv A outer s H vs Q E hgd (hr.deeper _) hsp
  have ht := ht0.nox
  have KX : K.In s.heap := e0.mod.kin.keeps fun b o e => (e0.bs b o e).1
  have lim : s.heap.NoLimit := e0.mod.nolimit.keeps fun b o e => (e0.bs b o e).1
  refine codeAny_call_function hr.depth (KX _ _ lk) rfl S.co S.gen rfl (PySem.W.codeRec_of KX hcd) (hb _ _ _ _ (wpAny_newFunctionEnv_cells S.kind (fun y hy => ?_) fun env he s1 x => ?_))
  · rcases S.par y.1 (List.of_mem_zip (show (y.1, y.2) ∈ _ from hy)).1 with q | q
    · exact .inl q
    · exact .inr ⟨q, PySem.W.cellsFrom_some _ _ _ (.inl q)⟩
  subst he
  have I := inv_start (CX := CX0) (N := N) (E := E) S hr.hd e0 (len _ _ _ _ hsp) r x
  refine ⟨lim.keeps x.toInCall.keep, codeAny_func (wpAny_mono (ht.run [] s1 (start N vs) H _ I hq) (fun fl s' hs => ?_) fun _ _ hs => hs)⟩
  cases fl with
  | ret u =>
    obtain ⟨v, _, H', J, rv, q⟩ := hs
    exact ⟨v, H', J.os, J.bare, J.base, J.hok, rv, q⟩
  | next =>
    obtain ⟨_, H', J, q⟩ := hs
    exact ⟨.non, H', J.os, J.bare, J.base, J.hok, rfl, q⟩
  | brk =>
    obtain ⟨_, _, _, q⟩ := hs
    exact False.elim q
  | cont =>
    obtain ⟨_, _, _, q⟩ := hs
    exact False.elim q
end
section
variable {X : Cx} {CX : CXT} {k : Nat} {f : Addr} {fd : FuncData} {ps : List Str} {sp : Sp} {dvs : List V} {ds : List Value} {E : XK} {x : Str} {p pos : Pos} {e : Expr} {es : List Expr} {t : TA}
theorem pe_callG (F : FnG X.prog X.w X.K X.mg X.base CX k f fd ps sp) (hG : X.A.guards = some []) (hr : Room k X.A) (hg : Gl X x) (hm : X.mg x = some (.ref f)) (hk : PySem.W.keepIn X.K (.ref f) = true) (hb : Binds X.K fd ps ds) (hd : Vals dvs ds) (hx : Passes CX X E)
    (ha : PA X (e :: es) t) (hdb : (x == ("__debug__" : Str)) = false := by decide) (he : starEach (e :: es) X.env = (false, eval e X.env) :: starEach es X.env := by rfl) (hpl : (backTo pos (starEach es X.env)).any (·.1) = false := by rfl) :
    PE X (.Call (.Name x p) (e :: es) [] pos) (tCall sp dvs E t) := by
  refine ⟨fun pins s σ H Q I h => wpAny_Call_Name_kw (ld_glob I hg hm ?_ hdb)⟩
  refine PySem.W.callWith_K (h₀ := X.base) I.ok.mod.kin hk (thn (ha.run pos pins s σ H _ I h) fun us s1 ⟨vs, H1, I1, r, q⟩ => ⟨I1.kIn, ?_⟩) he hpl
  have r2 : Vals (vs ++ dvs) (us ++ ds) := r.append hd
  refine wpAny_call (codeAny_mono (F.run X.A X.stack s1 H1 ⟨us, []⟩ (us ++ ds) (vs ++ dvs) Q E hG hr I1.env0 (hb s1 us I1.kIn (by rw [← r2.length]; exact F.len _ _ _ _ q)) r2 q) fun r s' hq => ?_)
  match r, hq with
  | .error er, hq => exact hx pins σ H1 s1 er s' I1 hq
  | .ok (.ret u), hq => exact I1.after hq
  | .ok .next, hq => exact False.elim hq
  | .ok .brk, hq => exact False.elim hq
  | .ok .cont, hq => exact False.elim hq
end

/-! repr of data -/
theorem gd_depth : ∀ (n : Nat) (d : PyData), gd n d → d.depth ≤ n := by
  intro n
  induction n with
  | zero =>
    intro d h
    cases d <;> first | exact False.elim h | (simp only [PyData.depth]; omega)
  | succ n ih =>
    have all : ∀ xs : List PyData, (∀ x ∈ xs, gd n x) → PyData.depthAll xs ≤ n := by
      intro xs
      induction xs with
      | nil => intro _; simp only [PyData.depthAll]; omega
      | cons x xs i2 =>
        intro h
        simp only [PyData.depthAll]
        have a := ih x (h x List.mem_cons_self)
        have b := i2 fun y hy => h y (List.mem_cons_of_mem _ hy)
        omega
    have kv : ∀ xs : List (PyData × PyData), (∀ p ∈ xs, (∃ k, p.1 = .str k ∧ okS k ∧ k.length ≤ 5) ∧ gd n p.2) → PyData.depthKv xs ≤ n := by
      intro xs
      induction xs with
      | nil => intro _; simp only [PyData.depthKv]; omega
      | cons x xs i2 =>
        intro h
        obtain ⟨k, v⟩ := x
        obtain ⟨⟨y, rfl, _⟩, g⟩ := h _ List.mem_cons_self
        simp only [PyData.depthKv]
        have a := ih v g
        have b := i2 fun y hy => h y (List.mem_cons_of_mem _ hy)
        have c : (PyData.str y).depth = 0 := by simp only [PyData.depth]
        omega
    intro d h
    cases d with
    | list xs => simp only [PyData.depth]; have := all xs h.2; omega
    | tuple xs => simp only [PyData.depth]; have := all xs h.2; omega
    | dict kvs => simp only [PyData.depth]; have := kv kvs h.2.1; omega
    | _ => simp only [PyData.depth]; omega
theorem shown_le {n : Nat} {d : PyData} (h : gd n d) (hn : n ≤ 3) : d.shown.length ≤ sizeLine := by
  have e := cs_shown d (gd_good n d h)
  have l := txt_len qR_len n d h
  have e2 : d.shown.length = (cs d.shown).length := by simp [cs, Str.length]
  rw [e2, e]
  refine le_line (Nat.le_trans l ?_)
  match n, hn with
  | 0, _ => decide
  | 1, _ => decide
  | 2, _ => decide
  | 3, _ => decide

section
variable {P : Program} {w : World} {H : Hp} {h : Heap}
abbrev ReD (P : Program) (w : World) (h : Heap) (u : Value) (d : PyData) : Prop := (∃ as, Reads h u d as) ∧ ∃ bs, ReadAtMost h d.depth bs ∧ ReprK P w bs h d.depth u d.shown
theorem red_all {F : V → PyData → Prop} (one : ∀ v d u, F v d → RelV v u → ReD P w h u d) : ∀ {vs : List V} {xs : List PyData} {us : List Value}, Paired F vs xs → Vals vs us →
    (∃ as, ReadsAll h us xs as) ∧ ∃ bs, ReadAtMost h (PyData.depthAll xs) bs ∧ ReprAllK P w bs h (PyData.depthAll xs) us (PyData.shownAll xs) := by
  intro vs xs us hp hv
  induction hp generalizing us with
  | nil =>
    cases hv
    exact ⟨⟨_, .nil⟩, [], (fun _ z => nomatch z), by simp only [PyData.shownAll]; exact .nil⟩
  | cons hx _ ih =>
    cases hv with
    | cons r rs =>
      obtain ⟨⟨as1, r1⟩, b1, m1, k1⟩ := one _ _ _ hx r
      obtain ⟨⟨as2, r2⟩, b2, m2, k2⟩ := ih rs
      refine ⟨⟨_, .cons r1 r2⟩, b1 ++ b2, ?_, ?_⟩
      · simp only [PyData.depthAll]
        exact (m1.mono (Nat.le_max_left _ _)).append (m2.mono (Nat.le_max_right _ _))
      · simp only [PyData.depthAll, PyData.shownAll]
        exact .cons ((k1.more fun b hb => List.mem_append_left _ hb).level_le (Nat.le_max_left _ _)) (k2.more_le (fun b hb => List.mem_append_right _ hb) (Nat.le_max_right _ _))
theorem red_flat {v : V} {d : PyData} {u : Value} {n : Nat} (ha : atV d = some v) (g : gd n d) (hn : n ≤ 3) (r : RelV v u) : ReD P w h u d := by
  cases d with
  | none => cases ha; cases (show u = .none from r); exact ⟨⟨_, .none⟩, [], (fun _ z => nomatch z), by simp only [PyData.shown]; exact .of_is ReprIs.none _ _ _⟩
  | bool b => cases ha; cases (show u = .bool b from r); exact ⟨⟨_, .bool b⟩, [], (fun _ z => nomatch z), by simp only [PyData.shown]; exact .of_is (ReprIs.bool b) _ _ _⟩
  | int i =>
    cases ha
    obtain ⟨t, rfl⟩ := r
    refine ⟨⟨_, .int i t⟩, [], (fun _ z => nomatch z), ?_⟩
    simp only [PyData.shown]
    refine .of_is (ReprIs.int t ?_) _ _ _
    have g' : i.natAbs < 10 ^ 18 := by cases n <;> exact g
    have : i.natAbs < 2 ^ 60 := Nat.lt_of_lt_of_le g' (by decide)
    by_cases z : i.natAbs = 0
    · rw [z]; decide
    · have := (Nat.log2_lt z).mpr this
      omega
  | str x =>
    cases ha
    obtain ⟨t, rfl⟩ := r
    refine ⟨⟨_, .str x t⟩, [], (fun _ z => nomatch z), ?_⟩
    have q := shown_le g hn
    simp only [PyData.shown] at q ⊢
    exact .of_is (ReprIs.str x t q) _ _ _
  | list _ => cases ha
  | tuple _ => cases ha
  | dict _ => cases ha
theorem keyRel {k : Key} {v : Value} (h : keyIs k v = true) : RelV (kV k) v := by
  rcases keyIs_shape h with ⟨i, t, rfl, rfl⟩ | ⟨x, t, rfl, rfl⟩
  · exact ⟨t, rfl⟩
  · exact ⟨t, rfl⟩
/-- the entries' keys and values -/
theorem pairs_two {es : List DictEntry} {vs : List (Key × Value)} {ks : List (Key × V)} (hp : Pairs (mixKind P w) es vs) (hv : KV ks vs) : Vals (ks.map fun p => kV p.1) (es.map (·.key)) ∧ Vals (ks.map (·.2)) (es.map (·.val)) := by
  induction hp generalizing ks with
  | nil => cases hv; exact ⟨.nil, .nil⟩
  | cons h1 h2 _ ih =>
    cases hv with
    | cons q qs =>
      obtain ⟨a, b⟩ := ih qs
      refine ⟨.cons ?_ a, .cons ?_ b⟩
      · have z := keyRel h1
        rw [← q.1] at z
        exact z
      · have z := q.2
        rw [← h2] at z
        exact z
theorem kv_keys {n : Nat} {ks : List (Key × V)} {ds : Mp} (h : Paired (fun a b => a.1 = .inr b.1 ∧ IsD H n a.2 b.2) ks ds) (hg : ∀ p ∈ ds, okS p.1 ∧ p.1.length ≤ 5) :
    Paired (fun v d => atV d = some v ∧ gd 0 d) (ks.map fun p => kV p.1) ((ds.map fun q => ((.str q.1 : PyData), q.2)).map (·.1)) := by
  induction h with
  | nil => exact .nil
  | cons q _ ih =>
    refine .cons ⟨?_, hg _ List.mem_cons_self⟩ (ih fun p hp => hg p (List.mem_cons_of_mem _ hp))
    have z := congrArg kV q.1
    exact congrArg some z.symm
theorem kv_vals {n : Nat} {ks : List (Key × V)} {ds : Mp} (h : Paired (fun a b => a.1 = .inr b.1 ∧ IsD H n a.2 b.2) ks ds) (hg : ∀ p ∈ ds, gd n p.2) :
    Paired (fun v d => IsD H n v d ∧ gd n d) (ks.map (·.2)) ((ds.map fun q => ((.str q.1 : PyData), q.2)).map (·.2)) := by
  induction h with
  | nil => exact .nil
  | cons q _ ih => exact .cons ⟨q.2, hg _ List.mem_cons_self⟩ (ih fun p hp => hg p (List.mem_cons_of_mem _ hp))
theorem paired_gd {n : Nat} {vs : List V} {xs : List PyData} (h : Paired (IsD H n) vs xs) (hg : ∀ x ∈ xs, gd n x) : Paired (fun v d => IsD H n v d ∧ gd n d) vs xs := by
  induction h with
  | nil => exact .nil
  | cons q _ ih => exact .cons ⟨q, hg _ List.mem_cons_self⟩ (ih fun p hp => hg p (List.mem_cons_of_mem _ hp))
theorem depth_kv_le (kvs : List (PyData × PyData)) : PyData.depthAll (kvs.map (·.1)) ≤ PyData.depthKv kvs ∧ PyData.depthAll (kvs.map (·.2)) ≤ PyData.depthKv kvs := ⟨PyData.depthAll_keys_le kvs, PyData.depthAll_vals_le kvs⟩
/-- what a compound datum's object shows -/
inductive Shw (P : Program) (w : World) (h : Heap) (a : Addr) : PyData → Prop
  | list {xs : List PyData} {o : Obj} {its : List Value} {n : Nat} {as bs : List Addr} : h.get? a = some o → o.cls = .type "list" → o.data = .seq its.toArray n → ReadsAll h its xs as → ReprAllK P w bs h (PyData.depthAll xs) its (PyData.shownAll xs) → a ∉ bs → Shw P w h a (.list xs)
  | tuple {xs : List PyData} {o : Obj} {its : List Value} {n : Nat} {as bs : List Addr} : h.get? a = some o → o.cls = .type "tuple" → o.data = .seq its.toArray n → ReadsAll h its xs as → ReprAllK P w bs h (PyData.depthAll xs) its (PyData.shownAll xs) → a ∉ bs → Shw P w h a (.tuple xs)
  | dict {kvs : List (PyData × PyData)} {o : Obj} {es : Array DictEntry} {n : Nat} {as1 as2 bs : List Addr} : h.get? a = some o → o.cls = .type "dict" → o.data = .dict es n → (a == sysModules) = false → ReadsAll h (es.toList.map (·.key)) (kvs.map (·.1)) as1 → ReadsAll h (es.toList.map (·.val)) (kvs.map (·.2)) as2 →
      ReprEntriesK P w bs h (PyData.depthKv kvs) es.toList (PyData.shownKv kvs) → ReadAtMost h (PyData.depthKv kvs) bs → a ∉ bs → Shw P w h a (.dict kvs)
theorem shw_of (ok : HOk P w H h) : ∀ (n : Nat), n ≤ 3 → (∀ (v : V) (d : PyData) (u : Value), IsD H n v d → gd n d → RelV v u → ReD P w h u d) ∧ (∀ (p : Addr) (d : PyData), IsD H n (.ref p) d → gd n d → Shw P w h p d) := by
  intro n
  induction n with
  | zero => exact fun _ => ⟨fun v d u hd g r => red_flat hd g (by decide) r, fun p d hd _ => by cases d <;> cases hd⟩
  | succ n ih =>
    intro hn
    obtain ⟨ih1, _⟩ := ih (by omega)
    have one : ∀ v d u, (IsD H n v d ∧ gd n d) → RelV v u → ReD P w h u d := fun v d u q r => ih1 v d u q.1 q.2 r
    have key : ∀ (p : Addr) (d : PyData), IsD H (n + 1) (.ref p) d → gd (n + 1) d → ReD P w h (.ref p) d ∧ Shw P w h p d := by
      intro p d hd g
      rcases hd with ha | ⟨p', vs, xs, e, rfl, hp, hv⟩ | ⟨p', vs, xs, e, rfl, hp, hv⟩ | ⟨p', ks, ds, e, rfl, hp, hv⟩
      · cases d <;> cases ha
      · cases e
        obtain ⟨_, its, m, rv, ho⟩ := ok p _ hp
        obtain ⟨⟨as, r4⟩, bs, hb, hk⟩ := red_all one (paired_gd hv g.2) rv
        have r : Reads h (.ref p) (.list xs) _ := .list ho rfl rfl r4
        have hna : p ∉ bs := not_mem_of_deeper r (by simp only [PyData.depth]; omega) hb
        refine ⟨⟨⟨_, r⟩, p :: bs, ReadAtMost.cons r (by simp only [PyData.depth]; omega) hb, ?_⟩, .list ho rfl rfl r4 hk hna⟩
        simp only [PyData.depth, PyData.shown]
        cases its with
        | nil =>
          cases r4
          simp only [PyData.shownAll, listText_nil]
          exact ReprK.listEmpty ho rfl rfl
        | cons x l => exact ReprK.list ho rfl rfl hna (by simpa using hk.length_eq) (fun i y e => hk.item i y (by simpa using e))
      · cases e
        obtain ⟨_, its, rv, o, ho, hc, m, hd⟩ := ok p _ hp
        obtain ⟨⟨as, r4⟩, bs, hb, hk⟩ := red_all one (paired_gd hv g.2) rv
        have r : Reads h (.ref p) (.tuple xs) _ := .tuple ho hc hd r4
        have hna : p ∉ bs := not_mem_of_deeper r (by simp only [PyData.depth]; omega) hb
        refine ⟨⟨⟨_, r⟩, p :: bs, ReadAtMost.cons r (by simp only [PyData.depth]; omega) hb, ?_⟩, .tuple ho hc hd r4 hk hna⟩
        simp only [PyData.depth, PyData.shown]
        exact ReprK.tuple ho hc hd hna hk
      · cases e
        obtain ⟨_, hsys, vs, rkv, o, es, ep, ho, hx, hd, _, hpr, _⟩ := rd_of ok hp
        obtain ⟨v1, v2⟩ := pairs_two hpr rkv
        have gK : ∀ q ∈ ds, (okS q.1 ∧ q.1.length ≤ 5) ∧ gd n q.2 := fun q hq => by
          obtain ⟨⟨k, e, a, b⟩, c⟩ := g.2.1 _ (List.mem_map.mpr ⟨q, hq, rfl⟩)
          cases e
          exact ⟨⟨a, b⟩, c⟩
        obtain ⟨⟨as1, r1⟩, b1, hb1, k1⟩ := red_all (P := P) (w := w) (h := h) (fun v d u q r => red_flat q.1 q.2 (by decide) r) (kv_keys hv fun q hq => (gK q hq).1) v1
        obtain ⟨⟨as2, r2⟩, b2, hb2, k2⟩ := red_all one (kv_vals hv fun q hq => (gK q hq).2) v2
        have r : Reads h (.ref p) (.dict (ds.map fun q => (.str q.1, q.2))) _ := .dict ho hx.1 hd r1 r2
        have hb : ReadAtMost h (PyData.depthKv (ds.map fun q => (.str q.1, q.2))) (b1 ++ b2) := (hb1.mono (depth_kv_le _).1).append (hb2.mono (depth_kv_le _).2)
        have hna : p ∉ b1 ++ b2 := not_mem_of_deeper r (by simp only [PyData.depth]; omega) hb
        have hE : ReprEntriesK P w (b1 ++ b2) h (PyData.depthKv (ds.map fun q => (.str q.1, q.2))) es.toList (PyData.shownKv (ds.map fun q => (.str q.1, q.2))) := by
          rw [PyData.shownKv_eq]
          exact ReprEntriesK.of_two es.toList _ _ (k1.more_le (fun b hb => List.mem_append_left _ hb) (depth_kv_le _).1) (k2.more_le (fun b hb => List.mem_append_right _ hb) (depth_kv_le _).2)
        refine ⟨⟨⟨_, r⟩, p :: (b1 ++ b2), ReadAtMost.cons r (by simp only [PyData.depth]; omega) hb, ?_⟩, .dict ho hx.1 hd hsys r1 r2 hE hb hna⟩
        simp only [PyData.depth, PyData.shown]
        exact ReprK.dict ho hx.1 hd hsys hna hE
    refine ⟨fun v d u hd g r => ?_, fun p d hd g => (key p d hd g).2⟩
    cases hat : atV d with
    | some v' =>
      have ev : v = v' := by
        rcases hd with ha | ⟨p', vs, xs, e, rfl, _⟩ | ⟨p', vs, xs, e, rfl, _⟩ | ⟨p', ks, ds, e, rfl, _⟩
        · rw [ha] at hat; exact Option.some.inj hat
        · cases hat
        · cases hat
        · cases hat
      subst ev
      exact red_flat hat g hn r
    | none =>
      have : ∃ p, v = .ref p := by
        rcases hd with ha | ⟨p', vs, xs, e, _⟩ | ⟨p', vs, xs, e, _⟩ | ⟨p', ks, ds, e, _⟩
        · rw [ha] at hat; cases hat
        · exact ⟨_, e⟩
        · exact ⟨_, e⟩
        · exact ⟨_, e⟩
      obtain ⟨p, rfl⟩ := this
      cases (show u = .ref p from r)
      exact (key p d hd g).1
end
/-- repr of data, where no guard stands -/
theorem call_reprD {X : Cx} (hG : X.A.guards = some []) (hu : X.A.units + 64 < cLine) : CallR X (.builtin "repr") (fun xs H Q => ∃ v d n, xs = [v] ∧ n ≤ 3 ∧ IsD H n v d ∧ gd n d ∧ Q (.str d.shown) H) := by
  intro pins s σ H xs us Q I r h
  obtain ⟨v, d, n, rfl, hn, hd, g, q⟩ := h
  obtain ⟨u, rfl, rv⟩ := vals1 r
  have hsz := shown_le g hn
  have fin : ∀ (h' : Heap) (u : Tok) (tk : Nat), (∀ b o, s.heap.get? b = some o → h'.get? b = some o) → EP X pins σ Q (.str d.shown u) { s with heap := h', toks := tk } := fun h' u tk hk => ⟨.str _, H, I.kept hk, ⟨u, rfl⟩, q⟩
  have ref : ∀ p : Addr, v = .ref p → wpAny (model X.prog X.w) X.A (call (.builtin "repr") [u]) (EP X pins σ Q) X.xe s := by
    rintro p rfl
    cases (show u = .ref p from rv)
    have hdp := gd_depth n d g
    have S := (shw_of I.hok n hn).2 p d hd g
    have hu1 : X.A.in1.units = X.A.units + 1 := rfl
    cases S with
    | list ho hc hda hr hk hna =>
      rename_i xs o its m as bs
      simp only [PyData.depth] at hdp
      simp only [PyData.shown] at hsz fin
      refine call_repr_slot (by omega) ⟨_, ho, hc⟩ F.slot_list_repr.toG ?_
      cases its with
      | nil =>
        cases hr
        simp only [PyData.shownAll, listText_nil] at fin
        exact call_list_repr_empty ⟨_, ho, hc⟩ ho hda ⟨_, _, rfl, fin s.heap _ _ fun _ _ e => e⟩
      | cons x l =>
        exact call_list_reprK ho hc hda hna (by simpa using hk.length_eq) (fun i y e => hk.item i y (by simpa using e)) (show X.A.in1.guards = some [] from hG) (fun b _ => Clear.nil b) (by omega) (fun _ _ e => e) (fun h' u tk k => ⟨_, _, rfl, fin h' u tk k⟩) hsz
    | tuple ho hc hda hr hk hna =>
      simp only [PyData.depth] at hdp
      simp only [PyData.shown] at hsz fin
      exact call_repr_slot (by omega) ⟨_, ho, hc⟩ F.slot_tuple_repr (call_tuple_reprK ho hc hda hna hk (show X.A.in1.guards = some [] from hG) (fun b _ => Clear.nil b) (by omega) (fun _ _ e => e) (fun h' u tk k => ⟨_, _, rfl, fin h' u tk k⟩) hsz)
    | dict ho hc hda hsys hr1 hr2 hk hb hna =>
      simp only [PyData.depth] at hdp
      simp only [PyData.shown] at hsz fin
      exact call_repr_slot (by omega) ⟨_, ho, hc⟩ F.slot_dict_repr (call_dict_reprK ho hc hda hsys hna hk (show X.A.in1.guards = some [] from hG) (fun b _ => Clear.nil b) (by omega) (fun _ _ e => e) (fun h' u tk k => ⟨_, _, rfl, fin h' u tk k⟩) hsz)
  cases hat : atV d with
  | some v' =>
    have ev : v = v' := by
      cases n with
      | zero => rw [show atV d = some v from hd] at hat; exact Option.some.inj hat
      | succ n =>
        rcases hd with ha | ⟨p', vs, xs, e, rfl, _⟩ | ⟨p', vs, xs, e, rfl, _⟩ | ⟨p', ks, ds, e, rfl, _⟩
        · rw [ha] at hat; exact Option.some.inj hat
        · cases hat
        · cases hat
        · cases hat
    subst ev
    cases d with
    | none => cases hat; cases (show u = .none from rv); exact PySem.P.repr_of_none (by have := fin s.heap s.toks (s.toks + 1) (fun _ _ e => e); simpa only [PyData.shown] using this)
    | bool b => cases hat; cases (show u = .bool b from rv); exact PySem.P.repr_of_bool (by have := fin s.heap s.toks (s.toks + 1) (fun _ _ e => e); simpa only [PyData.shown] using this)
    | int i =>
      cases hat
      obtain ⟨t, rfl⟩ := rv
      refine PySem.P.repr_of_int ?_ (by have := fin s.heap s.toks (s.toks + 1) (fun _ _ e => e); simpa only [PyData.shown] using this)
      have g' : i.natAbs < 10 ^ 18 := by cases n <;> exact g
      have : i.natAbs < 2 ^ 60 := Nat.lt_of_lt_of_le g' (by decide)
      by_cases z : i.natAbs = 0
      · rw [z]; decide
      · have := (Nat.log2_lt z).mpr this
        omega
    | str x =>
      cases hat
      obtain ⟨t, rfl⟩ := rv
      exact PySem.P.repr_of_str (by have := fin s.heap s.toks (s.toks + 1) (fun _ _ e => e); simpa only [PyData.shown] using this) (by simpa only [PyData.shown] using hsz)
    | list _ => cases hat
    | tuple _ => cases hat
    | dict _ => cases hat
  | none =>
    cases n with
    | zero => rw [show atV d = some v from hd] at hat; cases hat
    | succ n =>
      rcases hd with ha | ⟨p', vs, xs, e, _⟩ | ⟨p', vs, xs, e, _⟩ | ⟨p', ks, ds, e, _⟩
      · rw [ha] at hat; cases hat
      · exact ref _ e
      · exact ref _ e
      · exact ref _ e
end Mw

end

section
set_option Elab.async false
set_option linter.all false
set_option maxRecDepth 100000
set_option maxHeartbeats 4000000
/-! sorted(set(xs)), xs a list of texts. -/
namespace Mw
open PySem PySem.Spec PyProof.Rows L2 PySem.Froz
def Gx (w : World) (D : SD) : Prop := Ris D.2.2.place.toList ∧ (w.params.followText "set-order" = true ∨ D.2.2.led = true)
theorem gx_tail {w : World} {ep : Nat} {es1 : Array (Int × Value)} {t2 : SetTable} {b : Bool} (r : Ris t2.place.toList) (l : w.params.followText "set-order" = true ∨ t2.led = true) : Gx w (tailTx ep es1 t2 b) := by
  unfold tailTx
  split
  · exact ⟨relayAll_ris _ _ _, l.imp id fun z => (relayAll_led _ _ _).trans z⟩
  · exact ⟨r, l⟩
theorem gx_add {w : World} {D : SD} (g : Gx w D) (h : Int) (v : Value) : Gx w (addTx h v D) := by
  obtain ⟨es, ep, t⟩ := D
  obtain ⟨r, l⟩ := g
  have hr := layNew_ris t es h v r
  have hl := layNew_led t es h v
  have l2 : w.params.followText "set-order" = true ∨ (layNew t es h v).2.1.led = true := l.imp id fun z => hl.trans z
  refine gx_tail ?_ ?_
  · split <;> exact hr
  · split <;> exact l2
/-- the set of the texts l -/
def SetS (P : Program) (w : World) (h : Heap) (a : Addr) (l : List Str) : Prop := ∃ D, h.get? a = some (sObj "set" D) ∧ TxOk P w D l ∧ Gx w D ∧ l.Nodup
section
variable {P : Program} {w : World} {A : Around} {E : Value → Shared → Prop} {s : Shared} {h h' : Heap} {a : Addr} {l : List Str}
theorem SetS.at (R : SetS P w h a l) (k : ∀ o, h.get? a = some o → h'.get? a = some o) : SetS P w h' a l := by
  obtain ⟨D, ho, r⟩ := R
  exact ⟨D, k _ ho, r⟩
theorem sets_new (ho : h.get? a = some { cls := .type "set", dict := none, data := .set #[] 0 (.fresh 0 0 (!w.params.followText "set-order")) }) : SetS P w h a [] :=
  ⟨(#[], 0, .fresh 0 0 (!w.params.followText "set-order")), ho, TxOk.nil rfl, ⟨List.Pairwise.nil, by
    show _ ∨ (!w.params.followText "set-order") = true
    cases w.params.followText "set-order"
    · exact .inr rfl
    · exact .inl rfl⟩, .nil⟩
theorem sets_add {k : Str} {u : Tok} {Q : Bool → Shared → Prop} (R : SetS P w s.heap a l) (hb : l.length + 1 < scanBound)
    (hQ : ∀ b h' l', Heap.SameBut a s.heap h' → SetS P w h' a l' → l'.length ≤ l.length + 1 → (∀ j, j ∈ l' ↔ j ∈ l ∨ j = k) → Q b { s with heap := h' }) :
    wpAny (model P w) A (setAddHashed a (.str k u) (hashStr w k)) Q E s := by
  obtain ⟨D, ho, F, g, nd⟩ := R
  by_cases hk : k ∈ l
  · have q := hQ false s.heap l (Heap.SameBut.refl a s.heap) ⟨D, ho, F, g, nd⟩ (Nat.le_succ _) (fun j => ⟨.inl, fun z => z.elim id fun e => e ▸ hk⟩)
    obtain ⟨es, ep, t⟩ := D
    have hkey : (strKind P w).is k (.str k u) = true := is_str k u
    have hel : ElemsOf (strKind P w) es.toList := F.el
    have hsz : es.size = l.length := F.sz
    have hf : t.fits es.size = true := F.fit
    obtain ⟨e, he, hek⟩ := (F.mem k).mp hk
    unfold setAddHashed setAddHashedIn
    refine wpAny_holding (wpAny_bind (wpAny_setState_of ho rfl hf ?_))
    dsimp only
    rw [byScan_of rfl (by omega) hel]
    simp only [↓reduceIte]
    unfold setAddByScan
    refine wpAny_bind (wpAny_bind (wpAny_rule (wpAny_bind (wpAny_setScan_of (knd := strKind P w) (k := k) hkey ho rfl hf hel ?_))))
    cases hfi : List.findIdx? (fun e => (strKind P w).is k e.2) es.toList with
    | none =>
      have c := List.findIdx?_eq_none_iff.mp hfi e he
      rw [hek] at c
      cases c
    | some j =>
      dsimp only
      exact wpAny_pure (wpAny_pure q)
  · exact add_x ho F hk hb (hQ true _ (k :: l) (Heap.SameBut.update s.heap a _) ⟨_, get_upd _ ho rfl, add_ok u F, gx_add g _ _, List.nodup_cons.mpr ⟨hk, nd⟩⟩ (Nat.le_refl _) fun j => by rw [List.mem_cons]; exact Or.comm)
theorem set_update_strs {I : Addr} {fp wr : List Addr} {G : Array GenState → Array GenState → Prop} {n : Nat} {Pv : Nat → Value → Prop} {St : Nat → Shared → Prop} {R : Result → Shared → Prop}
    (W : WalksS P w A.in1 I fp wr G n Pv St) (S : Addr) (hSf : S ∉ fp) (xs : List Str) (hn : n = xs.length) (hb : xs.length + 1 < scanBound) (hval : ∀ i v, Pv i v → ∃ k t, xs[i]? = some k ∧ v = .str k t)
    (hR : ∀ s' l, Moved (S :: wr) G s s' → l.length ≤ n → (∀ j, j ∈ l ↔ j ∈ xs) → SetS P w s'.heap S l → R (.ok (.ret .none)) s') :
    ∀ (m i : Nat) (s1 : Shared), n - i = m → i ≤ n → St i s1 → (i = 0 ∧ s1 = s ∨ Moved (S :: wr) G s s1) → (∃ l, l.length ≤ i ∧ (∀ j, j ∈ l ↔ j ∈ xs.take i) ∧ SetS P w s1.heap S l) →
      codeAny (model P w) A (.builtin "set.update.loop" ⟨[.ref S, .ref I], []⟩) R s1 := by
  have hSw : S ∉ wr := fun h => hSf (W.sub _ h)
  have hsub : ∀ b ∈ wr, b ∈ S :: wr := fun b hb => List.mem_cons_of_mem _ hb
  have join : ∀ {i : Nat} {s1 s2 : Shared}, (i = 0 ∧ s1 = s ∨ Moved (S :: wr) G s s1) → Moved (S :: wr) G s1 s2 → Moved (S :: wr) G s s2 := fun {i s1 s2} h m => by
    rcases h with ⟨_, rfl⟩ | h
    · exact m
    · exact Moved.trans W.gtrans h m
  intro m
  induction m with
  | zero =>
    intro i s1 hk hi hst hm1 ⟨l, hl, hm, hS⟩
    have hin : i = n := by omega
    subst hin
    refine codeAny_builtin F.entry_set_update_loop ?_
    rw [Around.under_plainId F.plain_set_update_loop _]
    show wpAny _ A.in1 (pyNext (.ref I) >>= _) _ _ s1
    refine wpAny_bind (W.done s1 _ _ hst fun s' hmv => ?_)
    show wpAny _ A.in1 (ret Value.none) _ _ s'
    exact wpAny_pure (hR s' l (join hm1 (hmv.mono hsub)) hl (fun j => by rw [hm, List.take_of_length_le (by omega)]) (hS.at fun o e => hmv.heap S o hSw e))
  | succ m ih =>
    intro i s1 hk hi hst hm1 ⟨l, hl, hm, hS⟩
    have hlt : i < n := by omega
    refine codeAny_builtin F.entry_set_update_loop ?_
    rw [Around.under_plainId F.plain_set_update_loop _]
    show wpAny _ A.in1 (pyNext (.ref I) >>= _) _ _ s1
    refine wpAny_bind (W.item i s1 _ _ hlt hst fun v s' hP hst' hmv => ?_)
    obtain ⟨z, t, hz, rfl⟩ := hval i v hP
    have hS' : SetS P w s'.heap S l := hS.at fun o e => hmv.heap S o hSw e
    show wpAny _ A.in1 (holding [Value.str z t] (setAdd S (.str z t)) >>= _) _ _ s'
    refine wpAny_bind (wpAny_holding ?_)
    unfold setAdd
    refine wpAny_holding (wpAny_bind ((strKind P w).pyHash (k := z) (is_str z t) ?_))
    refine sets_add (s := { s' with toks := s'.toks + 1 }) hS' (by omega) fun b h' l' hsb hS2 hl2 hm2 => ?_
    refine wpAny_pure ⟨plainId_quiet F.plain_set_update_loop _, ih (i + 1) _ (by omega) hlt (W.frame _ s' _ _ hst' (Nat.le_succ _) fun b hb o e => ?_) (.inr (join hm1 ((hmv.mono hsub).then_heap (Nat.le_succ _) fun b o hb e => ?_))) ⟨l', by omega, fun j => ?_, hS2⟩⟩
    · rw [hsb.2 b (fun h : b = S => hSf (by rw [← h]; exact hb))]; exact e
    · rw [hsb.2 b (fun h : b = S => hb (by rw [h]; exact List.mem_cons_self))]; exact e
    · rw [hm2, hm, take_succ hz, List.mem_append, List.mem_singleton]
end
end Mw

end

section
set_option Elab.async false
set_option linter.all false
set_option maxRecDepth 100000
set_option maxHeartbeats 8000000
/-! sorted(set(xs)), xs a list of texts: the two calls. -/
namespace Mw
open PySem PySem.Spec PyProof.Rows L2 PySem.Froz
section
variable {P : Program} {w : World} {A : Around} {E : Value → Shared → Prop} {s : Shared}
theorem strs_nth : ∀ {us : List Value} {xs : List Str}, StrsAre us xs → ∀ (i : Nat) (v : Value), us[i]? = some v → ∃ k t, xs[i]? = some k ∧ v = .str k t
  | _, _, .nil, i, v, e => by simp at e
  | _, _, .cons y t _, 0, v, e => ⟨y, t, rfl, (Option.some.inj e).symm⟩
  | _, _, .cons y t h, i + 1, v, e => by
    obtain ⟨k, u, h1, h2⟩ := strs_nth h i v (by simpa using e)
    exact ⟨k, u, by simpa using h1, h2⟩
def setOb (w : World) : Obj := { cls := .type "set", dict := none, data := .set #[] 0 (.fresh 0 0 (!w.params.followText "set-order")) }
theorem call_set_strs {a : Addr} {items : Array Value} {xs : List Str} {Q : Value → Shared → Prop} (hh : A.handled = none) (hl : s.heap.IsList a items) (hi : StrsAre items.toList xs) (hb : xs.length + 1 < scanBound)
    (h : ∀ (h' : Heap) (tk : Nat) (l : List Str), SetS P w h' s.heap.objs.size l → l.length ≤ xs.length → (∀ j, j ∈ l ↔ j ∈ xs) → (∀ b o, s.heap.get? b = some o → h'.get? b = some o) → Q (.ref s.heap.objs.size) { s with heap := h', toks := tk }) :
    wpAny (model P w) A (call (.type "set") [.ref a]) Q E s := by
  have hisz : items.size = xs.length := by
    have q := StrsAre.length hi
    rw [Array.length_toList] at q
    exact q
  obtain ⟨c, tl, hmro⟩ := F.called_set.mro
  have hmade := F.called_set.made
  have hsub := F.called_set.sub
  refine wpAny_call (codeAny_of_tree ?_)
  show wpAny _ _ (callAny (.type "set") _) _ _ _
  refine wpAny_pure ⟨Code.quiet_builtin _ (by decide +kernel), codeAny_builtin F.entry_type_call ?_⟩
  rw [Around.under_plain (weight_type_call_type "set" [.ref a] []) rfl]
  have h1 := F.called_set.notType
  have h2 := F.called_set.canCreate
  have hct := F.typeCall_set_1 (.ref a)
  repeat (any_goals (first | assumption | wp_step))
  refine codeAny_mono (code_set_led1 (.ref a) (E := E) (Q₁ := fun obj s₁ => obj = .ref s.heap.objs.size ∧ s₁ = { s with heap := s.heap.push (setOb w) }) ⟨rfl, rfl⟩) fun r s₁ hr => ?_
  cases r with
  | error e => exact hr
  | ok fl =>
    cases fl with
    | ret obj =>
      obtain ⟨rfl, rfl⟩ := hr
      have hS : (s.heap.push (setOb w)).get? s.heap.objs.size = some (setOb w) := Heap.get?_push_size _ rfl
      have hT : Shared.TypeIs { s with heap := s.heap.push (setOb w) } (.ref s.heap.objs.size) "set" := ⟨_, hS, rfl⟩
      have hli := F.called_set.init.lookup
      have hbi := F.called_set.init.bind (.ref s.heap.objs.size)
      repeat (any_goals (first | assumption | wp_step))
      refine codeAny_mono (codeAny_call_builtin (R := wants (fun r s₂ => r = .none ∧ ∃ h' tk l, s₂ = { s with heap := h', toks := tk } ∧ SetS P w h' s.heap.objs.size l ∧ l.length ≤ xs.length ∧ (∀ j, j ∈ l ↔ j ∈ xs) ∧
          (∀ b o, s.heap.get? b = some o → h'.get? b = some o)) E) F.called_set.init.plain F.entry_set_init (check_set_init_1 hT ?_)) fun r₂ s₂ hr₂ => ?_
      · obtain ⟨ol, hol, hcl, nl, hdl⟩ := hl
        obtain ⟨ocls, odict, odata, oslots⟩ := ol
        simp only at hcl hdl
        subst hcl; subst hdl
        have hol' : (s.heap.push (setOb w)).get? a = some { cls := .type "list", dict := odict, data := .seq items nl, slots := oslots } := Heap.get?_push_of_some _ hol
        have hsls := F.sub_list_set
        have hslf := F.sub_list_frozenset
        have hne : (Value.type "list" == Value.type "dict") = false := by decide
        have hl1 : (s.heap.push (setOb w)).IsList a items := ⟨_, hol', rfl, nl, rfl⟩
        unfold Builtin.«set.__init__» noKeywords Builtin.Frozenset.updateFrom
        generalize hPI : pyIter = PI
        wp_walk
        subst hPI
        refine wpAny_pyIter_list hl1 ?_
        refine wpAny_bind (wpAny_runValue ?_)
        have hlS : a < s.heap.objs.size := Heap.lt_size hol
        have hh3 : A.in1.in1.in1.handled = none := by simp [hh]
        have hneI : a ≠ (s.heap.push (setOb w)).objs.size := by
          rw [Heap.size_push]; exact Nat.ne_of_lt (Nat.lt_succ_of_lt hlS)
        have hSf : s.heap.objs.size ∉ [(s.heap.push (setOb w)).objs.size, a] := by
          rw [Heap.size_push]; simp only [List.mem_cons, List.mem_singleton, List.not_mem_nil, or_false, not_or]
          exact ⟨Nat.ne_of_lt (Nat.lt_succ_self _), Nat.ne_of_gt hlS⟩
        have hval : ∀ (i : Nat) (v : Value), items[i]? = some v → ∃ k t, xs[i]? = some k ∧ v = .str k t := fun i v hv => by
          exact strs_nth hi i v (by rw [Array.getElem?_toList]; exact hv)
        refine set_update_strs (s := _) ((Walks.list hh3 _ a hneI items).toS) s.heap.objs.size
          hSf xs hisz hb hval ?hR (items.size - 0) 0 _ (by omega) (Nat.zero_le _)
          ⟨⟨_, Heap.get?_push_size _ rfl, rfl, rfl⟩, (hl1.push _)⟩ (.inl ⟨rfl, rfl⟩) ?hS0
        case hS0 => exact ⟨[], Nat.le_refl 0, fun j => by simp, sets_new (Heap.get?_push_of_some _ hS)⟩
        case hR =>
          intro s' l hm hl2 hm2 hS'
          obtain ⟨h', g2, d', tk', os'⟩ := s'
          have eg : g2 = s.gens := hm.gens
          have ed : d' = s.drawn := hm.drawn
          have eo : os' = s.os := hm.os
          subst eg; subst ed; subst eo
          show wpAny _ _ _ _ _ _
          refine wpAny_pure ?_
          show wpAny _ _ (ret Value.none) _ _ _
          refine wpAny_pure ⟨rfl, h', tk', l, rfl, hS', by omega, hm2, fun b o e => ?_⟩
          have hb0 : b < s.heap.objs.size := Heap.lt_size e
          have hb1 : b ≠ s.heap.objs.size := Nat.ne_of_lt hb0
          have hb2 : b ≠ (s.heap.push (setOb w)).objs.size := by
            rw [Heap.size_push]; exact Nat.ne_of_lt (Nat.lt_succ_of_lt hb0)
          exact hm.heap b o (by simp only [List.mem_cons, List.mem_singleton, List.not_mem_nil, or_false, not_or]; exact ⟨hb1, hb2⟩) (Heap.get?_push_of_some _ (Heap.get?_push_of_some _ e))
      · cases r₂ with
        | error e => exact hr₂
        | ok fl₂ =>
          cases fl₂ with
          | ret r =>
            obtain ⟨rfl, h', tk, l, rfl, hS', hl2, hm2, hk'⟩ := hr₂
            repeat (any_goals (first | assumption | wp_step))
            exact h _ _ _ hS' hl2 hm2 hk'
          | _ => exact hr₂.elim
    | _ => exact hr.elim
def strOf : Value → Str
  | .str x _ => x
  | _ => Str.empty
theorem strs_map : ∀ (vs : List Value), (∀ v ∈ vs, ∃ x t, v = .str x t) → StrsAre vs (vs.map strOf)
  | [], _ => .nil
  | v :: r, h => by
    obtain ⟨x, t, rfl⟩ := h v List.mem_cons_self
    exact .cons x t (strs_map r fun u hu => h u (List.mem_cons_of_mem _ hu))
theorem perm_of_sub : ∀ {l ys : List Str}, l.Nodup → (∀ k ∈ l, k ∈ ys) → ys.length = l.length → ys.Perm l
  | [], ys, _, _, e => by
    have : ys = [] := List.length_eq_zero_iff.mp e
    rw [this]
  | k :: r, ys, nd, h, e => by
    obtain ⟨h1, h2⟩ := List.nodup_cons.mp nd
    have hk := h k List.mem_cons_self
    have p := List.perm_cons_erase hk
    have e2 : (ys.erase k).length = r.length := by
      rw [List.length_erase_of_mem hk, e]
      rfl
    refine p.trans ((perm_of_sub h2 (fun j hj => ?_) e2).cons k)
    have hne : j ≠ k := fun z => h1 (z ▸ hj)
    exact (List.mem_erase_of_ne hne).mpr (h j (List.mem_cons_of_mem _ hj))
theorem sorted_sets {a : Addr} {l : List Str} {Q : Value → Shared → Prop} (R : SetS P w s.heap a l) (hh : A.handled = none) (h64 : l.length < 64)
    (hQ : ∀ s' p (out : List Value) (c : Nat) (ys : List Str), (∀ b o, s.heap.get? b = some o → s'.heap.get? b = some o) → s'.gens = s.gens → s'.os = s.os → s.heap.objs.size ≤ p →
      s'.heap.get? p = some { cls := .type "list", data := .seq out.toArray c } → StrsAre out ys → ys.Perm l → sortedS ys = true → Q (.ref p) s') :
    wpAny (model P w) A (call (.builtin "sorted") [.ref a]) Q E s := by
  obtain ⟨⟨es, ep, t⟩, ho, F0, ⟨hr, hl⟩, nd⟩ := R
  have hsz : es.size = l.length := F0.sz
  refine Calls.call_function_entry kind_sorted plain_sorted entry_sorted (args_sorted1 _) ?_
  unfold Builtin.«sorted»
  refine wpAny_bind (m := checkCount "sorted" 1 1 _) (wpAny_pure ?_)
  refine wpAny_bind (collect_set (A := A.in1) hh ⟨_, ho, rfl, rfl⟩ F0.fit (show es.size < scanBound by unfold scanBound; omega) hr hl fun s1 vs k1 hz g1 o1 pm => ?_)
  have hvl : vs.length = l.length := by rw [pm.length_eq, List.length_map, Array.length_toList]; exact hsz
  have hstr : ∀ v ∈ vs, ∃ x t, v = .str x t := fun v hv => by
    obtain ⟨e, he, q⟩ := List.mem_map.mp (pm.mem_iff.mp hv)
    obtain ⟨⟨k, h1, _⟩, _⟩ := F0.el e he
    obtain ⟨t, h2⟩ := Value.isStrOf_shape (x := k) (v := e.2) h1
    exact ⟨k, t, by rw [← q]; exact h2⟩
  have hS := strs_map vs hstr
  have hp0 : (vs.map strOf).Perm l := perm_of_sub nd (fun k hk => by
    obtain ⟨e, he, h1⟩ := (F0.mem k).mp hk
    obtain ⟨t, h2⟩ := Value.isStrOf_shape (x := k) (v := e.2) h1
    exact List.mem_map.mpr ⟨e.2, pm.mem_iff.mpr (List.mem_map_of_mem he), by rw [h2]; rfl⟩) (by rw [List.length_map]; exact hvl)
  refine wpAny_bind (wpAny_newList ?_ (by rw [hvl, sizeLine_eq]; omega))
  have hoL : (s1.heap.push (seqObj "list" vs.toArray 0)).get? s1.heap.objs.size = some (seqObj "list" vs.toArray 0) := Heap.get?_push_size _ rfl
  refine wpAny_bind (wpAny_holding (wpAny_call_entry slot_list_sort ⟨_, hoL, rfl⟩ entry_list_sort
    (list_sort_treeK strKind_oneLt hoL hS.keysOf (fun v₁ v₂ rest e => keyKind_strs (by rw [← e]; exact hS)) (by rw [hvl]; exact h64) fun st' hp hs => ⟨_, rfl, ?_⟩) (args_list_sort _)))
  obtain ⟨ys, q1, q2, q3⟩ := sorted_out_str hS hp hs
  obtain ⟨c, hc⟩ := sortedHeap_at (vs := vs) (out := (arrOf st').map (·.2)) hoL
  refine wpAny_pure ⟨_, rfl, hQ _ s1.heap.objs.size ((arrOf st').map (·.2)).toList c ys (fun b u e => ?_) g1 o1 hz (by rw [Array.toArray_toList]; exact hc) q1 (q2.trans hp0) q3⟩
  have q := k1 b u e
  have hlt := Heap.lt_size q
  show (sortedHeap (s1.heap.push (seqObj "list" vs.toArray 0)) s1.heap.objs.size vs _).get? b = some u
  rw [sortedHeap_old (Nat.ne_of_lt hlt) (by rw [size_push']; exact Nat.lt_succ_of_lt hlt)]
  exact Heap.get?_push_of_some _ q
end
/-- sorted(set(xs)) -/
def tSortSet (K : PySem.W.Frag) (ta : TE) : TE := fun σ H Q => ta σ H fun x H1 => ∃ (a : Addr) (xs : List Str), x = .ref a ∧ SqL K H1 a (xs.map V.str) ∧ xs.length < 64 ∧
  ∀ ys p, sortedS ys = true → ys.Nodup → (∀ k, k ∈ ys ↔ k ∈ xs) → ys.length ≤ xs.length → H1 p = none → Q (.ref p) (upd H1 p (.lst (ys.map V.str)))
section
variable {X : Cx}
theorem pe_sortSet {a : Expr} {ta : TE} {p p2 q pos : Pos} (hc : X.calm = true) (hg : Gl X "sorted") (hm : X.mg "sorted" = none) (hg2 : Gl X "set") (hm2 : X.mg "set" = none) (ha : PE X a ta)
    (na : starEach [a] X.env = (false, eval a X.env) :: starEach [] X.env := by rfl) : PE X (.Call (.Name "sorted" p) [.Call (.Name "set" p2) [a] [] q] [] pos) (tSortSet X.K ta) := by
  refine ⟨fun pins s σ H Q I h => ?_⟩
  refine Call_ (ld_blt I hg hm (by decide +kernel : bootBuiltins "sorted" = some (.builtin "sorted")) ?_)
  refine PyProof.Rows.callWith_builtin1 (PyProof.Rows.args_cons ?_ rfl) rfl rfl
  refine Call_ (ld_blt I hg2 hm2 boot_set ?_)
  refine PyProof.Rows.callWith_type1 (PyProof.Rows.args_cons (thn (ha.run pins s σ H _ I h) fun v s1 ⟨x, H1, I1, r1, q1⟩ => PyProof.Rows.args_nil ?_) na) na rfl
  obtain ⟨l, xs, rfl, hq, h64, q1⟩ := q1
  cases (show v = .ref l from r1)
  obtain ⟨its, r, pl, hz⟩ := I1.list hq
  refine call_set_strs (I1.ok.hd hc) pl.isList (xs := xs) (by simpa using r.strs) (by unfold scanBound; omega) fun h' tk l2 hS hl2 hm2 hk => ?_
  have I2 : Inv X pins σ H1 { s1 with heap := h', toks := tk } := I1.kept hk
  refine PyProof.Rows.args_nil ?_
  refine sorted_sets (s := { s1 with heap := h', toks := tk }) hS (I1.ok.hd hc) (by omega) fun s' p out c ys k g o hp hgt hi hperm hs => ?_
  have hyl : ys.length ≤ xs.length := by rw [hperm.length_eq]; exact hl2
  have hlen : (ys.map V.str).length ≤ sizeLine := by rw [List.length_map, sizeLine_eq]; omega
  have hn : H1 p = none := I2.hok.fresh hp
  obtain ⟨D, _, _, _, nd⟩ := hS
  have J := I2.call (h' := s'.heap) (g' := s'.gens) (d' := s'.drawn) (t' := s'.toks) (ch := []) (Un.laid (o := .lst (ys.map V.str)) k hp hn) (I2.hok.laid k hp ⟨hlen, out, c, vals_of_strs hi, hgt⟩) (by rw [g]; exact I2.bare) (fun _ z => nomatch z)
  have e : s' = { s1 with heap := s'.heap, gens := s'.gens, drawn := s'.drawn, toks := s'.toks } := by
    cases s'
    cases s1
    cases o
    rfl
  rw [e]
  exact ⟨.ref p, _, J, rfl, q1 ys p hs (hperm.nodup_iff.mpr nd) (fun k => hperm.mem_iff.trans (hm2 k)) hyl hn⟩
end
end Mw

end

section
set_option Elab.async false
set_option linter.all false
set_option maxRecDepth 100000
set_option maxHeartbeats 4000000
/-! _law_at, _law_conflicts. -/
namespace Mw
open PySem PySem.Spec PyProof.Rows L2
def atS (m : Mp) (k : Str) : Str := match lk m k with
  | some v => v.shown
  | none => ""
theorem shown_ne {n : Nat} {d : PyData} (g : gd n d) : d.shown ≠ ("" : Str) := fun z => by
  obtain ⟨c, t, e, _⟩ := head_kind QR d (gd_good n d g)
  rw [← cs_shown d (gd_good n d g), z] at e
  cases e
theorem atS_iff {n n' : Nat} {m m' : Mp} (h : OkM n m) (h' : OkM n' m') {k : Str} : atS m k = atS m' k ↔ lk m k = lk m' k := by
  constructor
  · intro e
    unfold atS at e
    cases e1 : lk m k with
    | none =>
      cases e2 : lk m' k with
      | none => rfl
      | some y => rw [e1, e2] at e; exact absurd e.symm (shown_ne (h'.lk e2).2)
    | some x =>
      cases e2 : lk m' k with
      | none => rw [e1, e2] at e; exact absurd e (shown_ne (h.lk e1).2)
      | some y =>
        rw [e1, e2] at e
        rw [shown_inj (gd_good 1 x (h.lk e1).2) (gd_good 1 y (h'.lk e2).2) e]
  · intro e
    unfold atS
    rw [e]
theorem atS_eq {n n' : Nat} {m m' : Mp} (h : OkM n m) (h' : OkM n' m') (k : Str) : decide (V.str (atS m k) = V.str (atS m' k)) = eqD (lk m k) (lk m' k) := by
  rw [Bool.eq_iff_iff, decide_eq_true_iff, eqD_iff, ← atS_iff h h' (k := k)]
  exact ⟨fun e => V.str.inj e, fun e => by rw [e]⟩
theorem eqD_symm (a b : Option PyData) : eqD a b = eqD b a := by
  rw [Bool.eq_iff_iff, eqD_iff, eqD_iff]
  exact eq_comm
theorem atS_ch {n n' : Nat} {m m' : Mp} (h : OkM n m) (h' : OkM n' m') (k : Str) : (!decide (V.str (atS m' k) = V.str (atS m k))) = ch m m' k := by
  rw [atS_eq h' h, eqD_symm]
  rfl
/-- list(d), d walked or not -/
def rLR : List V → Hp → VK → Prop := fun xs H Q => ∃ p kvs, xs = [.ref p] ∧ Rd H p (.dK kvs) ∧ ∀ q, H q = none → Q (.ref q) (upd H q (.lst (kvs.map fun kv => kV kv.1)))
theorem call_listRd {X : Cx} (hc : X.calm = true) : CallR X (.type "list") rLR := by
  intro pins s σ H xs us Q I r h
  obtain ⟨p, kvs, rfl, hk, q⟩ := h
  obtain ⟨u, rfl, rx⟩ := vals1 r
  cases (show u = .ref p from rx)
  obtain ⟨z, lo, vs, rk, hd⟩ := dk_rd I.hok hk
  obtain ⟨ep, hat⟩ := hd.dictAt
  have hl : kvs.length = vs.length := Paired.length rk
  refine PySem.W.kdl_call (PySem.W.kdl_dict (knd := mixKind X.prog X.w) (kvs := vs) (ep := ep) lo) (I.ok.hd hc) hat (by rw [← hl]; exact z) fun h' tk acc c hkeep hS hacc => ?_
  have hm : (kvs.map fun kv => kV kv.1) = (vs.map (·.1)).map kV := by
    rw [← KV.keys rk, List.map_map]
    rfl
  refine ⟨.ref s.heap.objs.size, _, I.laid hkeep (Nat.le_refl _) (show ObjOk X.prog X.w _ _ _ (.lst (kvs.map fun kv => kV kv.1)) from ⟨by rw [List.length_map]; exact z, acc.toList, c, ?_, by rw [Array.toArray_toList]; exact hS⟩), rfl, q _ (I.hok.fresh (Nat.le_refl _))⟩
  refine vals_of_at (by rw [List.length_map]; exact hl.trans (by rw [Array.length_toList]; exact hacc.1.symm)) fun j x v h1 h2 => ?_
  obtain ⟨k, y, hky, hi⟩ := hacc.2 j v (by rw [← Array.getElem?_toList]; exact h2)
  have e2 : (kvs.map fun kv => kV kv.1)[j]? = some (kV k) := by
    rw [hm, List.getElem?_map, List.getElem?_map, hky]
    rfl
  rw [e2] at h1
  cases h1
  exact keyRel hi
theorem kvd_strs {H : Hp} {n : Nat} {ks : List (Key × V)} {m : Mp} (h : KvD H n ks m) : (ks.map fun kv => kV kv.1) = (keys m).map V.str := by
  have e : (ks.map fun kv => kV kv.1) = (ks.map (·.1)).map kV := by
    rw [List.map_map]
    rfl
  rw [e, h.keys, List.map_map]
  rfl
/-- sorted(set(list(a) + list(b) + list(c))) -/
abbrev tU3 (K : PySem.W.Frag) (i j k : Nat) : TE := tSortSet K (tOp rCat (tOp rCat (tCB rLR (tCons (tVar i) tNil)) (tCB rLR (tCons (tVar j) tNil))) (tCB rLR (tCons (tVar k) tNil)))
theorem union3 {K : PySem.W.Frag} {σ : L2.St} {H : Hp} {Q : VK} {i j k : Nat} {a b c : Addr} {m1 m2 m3 : Mp} (hi : σ[i]? = some (some (.ref a))) (hj : σ[j]? = some (some (.ref b))) (hk : σ[k]? = some (some (.ref c)))
    (ha : MapAt H a m1) (hb : MapAt H b m2) (hc : MapAt H c m3) (o1 : OkM 12 m1) (o2 : OkM 12 m2) (o3 : OkM 12 m3)
    (q : ∀ H' l ys, Same H H' → H l = none → H' l = some (.lst (ys.map V.str)) → sortedS ys = true → ys.Nodup → (∀ k, k ∈ ys ↔ k ∈ keys m1 ∨ k ∈ keys m2 ∨ k ∈ keys m3) → ys.length ≤ 36 → Q (.ref l) H') : tU3 K i j k σ H Q := by
  obtain ⟨k1, r1, d1⟩ := ha
  obtain ⟨k2, r2, d2⟩ := hb
  obtain ⟨k3, r3, d3⟩ := hc
  have l1 := o1.len
  have l2 := o2.len
  have l3 := o3.len
  have lk1 : (keys m1).length = m1.length := List.length_map _
  have lk2 : (keys m2).length = m2.length := List.length_map _
  have lk3 : (keys m3).length = m3.length := List.length_map _
  refine ⟨_, hi, a, k1, rfl, r1, fun p1 h1 => ?_⟩
  have e1 := kvd_strs d1
  have e2 := kvd_strs d2
  have e3 := kvd_strs d3
  rw [e1]
  refine ⟨_, hj, b, k2, rfl, rd_upd r2 (rd_ne h1 r2), fun p2 h2 => ?_⟩
  rw [e2]
  have s1 : Same H (upd H p1 (.lst ((keys m1).map V.str))) := same_upd h1
  have s2 := s1.trans (same_upd (o := .lst ((keys m2).map V.str)) h2)
  have h12 : p1 ≠ p2 := fun z => by rw [← z, upd_same] at h2; cases h2
  refine ⟨p1, p2, _, _, rfl, rfl, by rw [upd_ne h12]; exact upd_same, upd_same, ?_, fun p3 h3 => ?_⟩
  · rw [List.length_map, List.length_map]
    exact le_line (by omega)
  have s3 := s2.trans (same_upd (o := .lst ((keys m1).map V.str ++ (keys m2).map V.str)) h3)
  refine ⟨_, hk, c, k3, rfl, (rdS_of s3).rd c _ rfl r3, fun p4 h4 => ?_⟩
  rw [e3]
  have s4 := s3.trans (same_upd (o := .lst ((keys m3).map V.str)) h4)
  have h34 : p3 ≠ p4 := fun z => by rw [← z, upd_same] at h4; cases h4
  refine ⟨p3, p4, _, _, rfl, rfl, by rw [upd_ne h34]; exact upd_same, upd_same, ?_, fun p5 h5 => ?_⟩
  · rw [List.length_append, List.length_map, List.length_map, List.length_map]
    exact le_line (by omega)
  have s5 := s4.trans (same_upd (o := .lst ((keys m1).map V.str ++ (keys m2).map V.str ++ (keys m3).map V.str)) h5)
  have e5 : (keys m1).map V.str ++ (keys m2).map V.str ++ (keys m3).map V.str = (keys m1 ++ keys m2 ++ keys m3).map V.str := by rw [List.map_append, List.map_append]
  refine ⟨p5, keys m1 ++ keys m2 ++ keys m3, rfl, SqL.of (by rw [upd_same, e5]), ?_, fun ys p hs nd hm hl hp => ?_⟩
  · rw [List.length_append, List.length_append]
    omega
  · refine q _ p ys (s5.trans (same_upd hp)) ?_ upd_same hs nd (fun k => ?_) ?_
    · cases e : H p with
      | none => rfl
      | some o => rw [s5 p o e] at hp; cases hp
    · rw [hm, List.mem_append, List.mem_append, or_assoc]
    · rw [List.length_append, List.length_append] at hl
      omega
theorem for_u3 {K : PySem.W.Frag} {g : TG} {tb : TS} {D : Ends} {σ : L2.St} {H : Hp} {i j k : Nat} {a b c : Addr} {m1 m2 m3 : Mp} (hi : σ[i]? = some (some (.ref a))) (hj : σ[j]? = some (some (.ref b))) (hk : σ[k]? = some (some (.ref c)))
    (ha : MapAt H a m1) (hb : MapAt H b m2) (hc : MapAt H c m3) (o1 : OkM 12 m1) (o2 : OkM 12 m2) (o3 : OkM 12 m3)
    (q : ∀ H' l ys, Same H H' → H l = none → H' l = some (.lst (ys.map V.str)) → sortedS ys = true → ys.Nodup → (∀ k, k ∈ ys ↔ k ∈ keys m1 ∨ k ∈ keys m2 ∨ k ∈ keys m3) → ys.length ≤ 36 → tFor (fun σ H R => R (Itl K l) H) g tb D σ H') :
    tFor (iList K (tU3 K i j k)) g tb D σ H := by
  dsimp only [tFor, iList]
  exact union3 hi hj hk ha hb hc o1 o2 o3 fun H' l ys h1 h2 h3 h4 h5 h6 h7 => ⟨l, rfl, ⟨_, SqL.of h3⟩, q H' l ys h1 h2 h3 h4 h5 h6 h7⟩
abbrev sAt : Stmt := top 41
theorem scAt : FnScope ["_law_mapping_here", "_law_key"] ["_law_mapping_here", "_law_key"] (defScope sAt) := ⟨rfl, rfl, rfl, by decide +kernel, rfl, by decide +kernel, by decide +kernel⟩
def spAt : Sp := fun vs H Q _ => ∃ (a : Addr) (m : Mp) (k : Str) (n : Nat), vs = [.ref a, .str k] ∧ MapAt H a m ∧ OkM n m ∧ Q (.str (atS m k)) H
abbrev sLC : Stmt := top 42
theorem scLC : FnScope ["_law_base", "_law_one", "_law_other", "_law_found", "_law_key", "_law_texts"] ["_law_base", "_law_one", "_law_other"] (defScope sLC) := ⟨rfl, rfl, rfl, by decide +kernel, rfl, by decide +kernel, by decide +kernel⟩
section
variable {P : Program} {w : World} {K : PySem.W.Frag} {mg : Str → Option Value} {base : Heap} {f ft : Addr} {fd ftd : FuncData}
theorem ok_at (F : Df K mg "_law_at" sAt ["_law_mapping_here", "_law_key"] f fd) (B : Bi mg) : FnG P w K mg base CX0 1 f fd ["_law_mapping_here", "_law_key"] spAt := by
  refine fn0G F.fn scAt (fun vs H Q E h => ?_) (fun cdv A outer s H vs Q E hG hr h => ?_)
  · obtain ⟨a, m, k, n, rfl, _⟩ := h
    rfl
  · obtain ⟨a, m, k, n, rfl, ha, o, q⟩ := h
    have hu := hu_of hr
    refine ⟨_, pss_one (ps_ret (pe_ifExp (pt_cmp (pc_din hu (pv 1) (pv 0)))
      (pe_callB (call_reprD hG hr.units) (by rfl) B.repr (by decide +kernel) (pa_cons (pe_dget hu (pv 0) (pv 1) (fun _ _ => rfl)) pa_nil)) pe_str)), ?_⟩
    obtain ⟨ov, g, io, vo⟩ := ha.get k
    refine ⟨_, rfl, _, rfl, a, ov, rfl, g, _, rfl, ?_⟩
    have hq : Q (.str (atS m k)) H := q
    unfold atS at hq
    cases ov with
    | none =>
      have e1 : lk m k = none := Option.not_isSome_iff_eq_none.mp (by rw [← io]; exact Bool.false_ne_true)
      rw [e1] at hq
      exact iteF hq
    | some v =>
      obtain ⟨x, e1, d1⟩ := vo v rfl
      rw [e1] at hq
      exact iteT ⟨_, rfl, _, rfl, a, v, rfl, g, v, x, 1, rfl, by decide, d1, (o.lk e1).2, hq⟩
theorem ok_lc (F : Df K mg "_law_conflicts" sLC ["_law_base", "_law_one", "_law_other"] f fd) (B : Bi mg) (T : Df K mg "_law_at" sAt ["_law_mapping_here", "_law_key"] ft ftd)
    (GT : FnG P w K mg base CX0 1 ft ftd ["_law_mapping_here", "_law_key"] spAt) : FnG P w K mg base CX0 2 f fd ["_law_base", "_law_one", "_law_other"] spAC := by
  refine fn0G F.fn scLC (fun vs H Q E h => ?_) (fun cdv A outer s H vs Q E hG hr h => ?_)
  · obtain ⟨a, b, c, m1, m2, m3, rfl, _⟩ := h
    rfl
  · obtain ⟨a, b, c, m1, m2, m3, rfl, ha, hb, hc, o1, o2, o3, q⟩ := h
    have hu := hu_of hr
    refine ⟨_, pss_cons (ps_set (i := 3) scLC.nd rfl (Or.inl rfl) (pe_lst pa_nil))
      (pss_cons (ps_for PassesOwn.never rfl (pi_list (pe_sortSet rfl (by rfl) B.sorted (by rfl) B.set
          (pe_op op_cat (pe_op op_cat (pe_callTy (call_listRd rfl) (by rfl) B.list (by decide +kernel) (pa_cons (pv 0) pa_nil)) (pe_callTy (call_listRd rfl) (by rfl) B.list (by decide +kernel) (pa_cons (pv 1) pa_nil)))
            (pe_callTy (call_listRd rfl) (by rfl) B.list (by decide +kernel) (pa_cons (pv 2) pa_nil))))) (pg_name (i := 4) scLC.nd rfl (Or.inl rfl))
        (pss_cons (ps_set (i := 5) scLC.nd rfl (Or.inl rfl) (pe_lst (pa_cons (pe_callG GT hG hr rfl T.m T.fn.kp T.b .nil pass0 (pa_cons (pv 0) (pa_cons (pv 4) pa_nil)))
            (pa_cons (pe_callG GT hG hr rfl T.m T.fn.kp T.b .nil pass0 (pa_cons (pv 1) (pa_cons (pv 4) pa_nil))) (pa_cons (pe_callG GT hG hr rfl T.m T.fn.kp T.b .nil pass0 (pa_cons (pv 2) (pa_cons (pv 4) pa_nil))) pa_nil)))))
        (pss_one (ps_if (PW.pt (pw_and (pt_cmpR op_ne (pe_ix ix_list (pv 5) pe_int (fun _ _ => rfl)) (pe_ix ix_list (pv 5) pe_int (fun _ _ => rfl)) (nomark _))
            (pw_and (pt_cmpR op_ne (pe_ix ix_list (pv 5) pe_int (fun _ _ => rfl)) (pe_ix ix_list (pv 5) pe_int (fun _ _ => rfl)) (nomark _))
              (pw_and1 (pt_cmpR op_ne (pe_ix ix_list (pv 5) pe_int (fun _ _ => rfl)) (pe_ix ix_list (pv 5) pe_int (fun _ _ => rfl)) (nomark _))))))
          (pss_one (ps_expr (pe_bm PySem.F.plainAttrs_list PySem.F.slot_list_append PySem.F.type_list_append mt_append (pv 3) (pa_cons (pv 4) pa_nil)))) pss_nil))))
      (pss_one (ps_ret (pv 3)))), ?_⟩
    refine ⟨l0_line, fun F hF => ?_⟩
    have s1 : Same H (upd H F (.lst [])) := same_upd hF
    have hg : gName 3 = fun v σ H Q => Q (σ.set 3 (some v)) H := rfl
    rw [hg]
    dsimp only [tSeq]
    refine @for_u3 K _ _ _ _ _ 0 1 2 a b c m1 m2 m3 ?_ ?_ ?_ (ha.mono (rdS_of s1)) (hb.mono (rdS_of s1)) (hc.mono (rdS_of s1)) o1 o2 o3 fun H1 l ys s2 hl0 hl hs nd hm hy => ?_
    · rfl
    · rfl
    · rfl
    have hys : IsCf m1 m2 m3 (ys.filter (cf m1 m2 m3)) := isCf_of hs nd hm
    have hFl : H1 F = some (.lst []) := s2 _ _ upd_same
    have hlF : l ≠ F := fun z => by rw [z, upd_same] at hl0; cases hl0
    refine for_list (xs := ys.map V.str) (fun i σ H4 => ∃ x y, σ = [some (.ref a), some (.ref b), some (.ref c), some (.ref F), x, y] ∧ Same H H4 ∧ H4 l = some (.lst (ys.map V.str)) ∧ H4 F = some (.lst (((ys.take i).filter (cf m1 m2 m3)).map V.str)))
      ⟨_, _, rfl, s1.trans s2, hl, hFl⟩ (fun i σ H4 _ h => by obtain ⟨x, y, _, _, h, _⟩ := h; exact SqL.of h) ?_ ?_
    · rintro i x σ H4 hx ⟨y, y2, rfl, s4, h4, hF4⟩
      obtain ⟨k, hk, rfl⟩ := map_at hx
      have w4 := rdS_of s4
      have hlen : ((ys.take i).filter (cf m1 m2 m3)).length ≤ 36 := by
        have := List.length_filter_le (cf m1 m2 m3) (ys.take i)
        have h2 : (ys.take i).length ≤ ys.length := by rw [List.length_take]; omega
        omega
      refine ⟨_, rfl, _, rfl, a, m1, k, 12, rfl, ha.mono w4, o1, _, rfl, _, rfl, b, m2, k, 12, rfl, hb.mono w4, o2, _, rfl, _, rfl, c, m3, k, 12, rfl, hc.mono w4, o3, l3_line, fun t ht => ?_⟩
      have s5 : Same H4 (upd H4 t (.lst [V.str (atS m1 k), V.str (atS m2 k), V.str (atS m3 k)])) := same_upd ht
      have hT := upd_same (H := H4) (a := t) (o := .lst [V.str (atS m1 k), V.str (atS m2 k), V.str (atS m3 k)])
      generalize upd H4 t (.lst [V.str (atS m1 k), V.str (atS m2 k), V.str (atS m3 k)]) = H5 at s5 hT ⊢
      have s45 := s4.trans s5
      have h5 := s5 _ _ h4
      have hF5 := s5 _ _ hF4
      refine ⟨_, rfl, t, _, _, _, rfl, rfl, SqL.of hT, rfl, _, rfl, t, _, _, _, rfl, rfl, SqL.of hT, rfl, rfl, _, rfl, ?_⟩
      rw [atS_ch o1 o2]
      cases c1 : ch m1 m2 k with
      | false =>
        refine iteF (iteF ⟨_, _, rfl, s45, h5, ?_⟩)
        rw [take_filter _ hk, if_neg (by unfold cf; rw [c1]; exact Bool.false_ne_true)]
        exact hF5
      | true =>
      refine iteT ⟨_, rfl, t, _, _, _, rfl, rfl, SqL.of hT, rfl, _, rfl, t, _, _, _, rfl, rfl, SqL.of hT, rfl, rfl, _, rfl, ?_⟩
      rw [atS_ch o1 o3]
      cases c2 : ch m1 m3 k with
      | false =>
        refine iteF (iteF ⟨_, _, rfl, s45, h5, ?_⟩)
        rw [take_filter _ hk, if_neg (by unfold cf; rw [c1, c2]; exact Bool.false_ne_true)]
        exact hF5
      | true =>
      refine iteT ⟨_, rfl, t, _, _, _, rfl, rfl, SqL.of hT, rfl, _, rfl, t, _, _, _, rfl, rfl, SqL.of hT, rfl, rfl, _, rfl, ?_⟩
      rw [atS_eq o2 o3]
      cases c3 : eqD (lk m2 k) (lk m3 k) with
      | true =>
        refine ifF rfl ⟨_, _, rfl, s45, h5, ?_⟩
        rw [take_filter _ hk, if_neg (by unfold cf; rw [c1, c2, c3]; exact Bool.false_ne_true)]
        exact hF5
      | false =>
        refine ifT rfl ?_
        refine ⟨_, rfl, .inl ⟨rfl, _, SqL.of hF5⟩, _, rfl, F, _, _, rfl, rfl, hF5, ?_, ?_⟩
        · rw [List.length_map]; exact lt_line (by omega)
        · refine ⟨_, _, rfl, fun b o e => by rw [upd_ne (ne_of_none e hF)]; exact s45 b o e, by rw [upd_ne hlF]; exact h5, ?_⟩
          rw [take_filter _ hk, if_pos (by unfold cf; rw [c1, c2, c3]; rfl), upd_same, List.map_append]
          rfl
    · rintro σ H4 ⟨y, y2, rfl, s4, h4, hF4⟩
      rw [List.length_map, List.take_length] at hF4
      refine ⟨_, rfl, q H4 F _ s4 hF hF4 hys ?_⟩
      have := List.length_filter_le (cf m1 m2 m3) ys
      omega
end
end Mw

end

section
set_option Elab.async false
set_option linter.all false
set_option maxRecDepth 100000
set_option maxHeartbeats 4000000
/-! _law_done. -/
namespace Mw
open PySem PySem.Spec PyProof.Rows L2
/-- a pair [key, value] -/
def PairAt (H : Hp) (t : Addr) (q : Str × PyData) : Prop := ∃ v, H t = some (.lst [.str q.1, v]) ∧ IsD H 1 v q.2
abbrev PairsAt (H : Hp) (p : Addr) (m : Mp) : Prop := ∃ ts, H p = some (.lst (ts.map V.ref)) ∧ Paired (PairAt H) ts m
theorem PairAt.mono {H H' : Hp} (s : RdS H H') {t : Addr} {q : Str × PyData} (h : PairAt H t q) : PairAt H' t q := by
  obtain ⟨v, h1, h2⟩ := h
  exact ⟨v, s.lst _ _ h1, h2.mono s⟩
/-- .. its value of H -/
def PairI (H H3 : Hp) (t : Addr) (q : Str × PyData) : Prop := ∃ v, H3 t = some (.lst [.str q.1, v]) ∧ IsD H 1 v q.2
theorem PairI.mono {H G G' : Hp} (s : RdS G G') {t : Addr} {q : Str × PyData} (h : PairI H G t q) : PairI H G' t q := by
  obtain ⟨v, h1, h2⟩ := h
  exact ⟨v, s.lst _ _ h1, h2⟩
theorem PairI.pair {H G : Hp} (s : Same H G) {t : Addr} {q : Str × PyData} (h : PairI H G t q) : PairAt G t q := by
  obtain ⟨v, h1, h2⟩ := h
  exact ⟨v, h1, h2.mono (rdS_of s)⟩
theorem dp_ints {K : PySem.W.Frag} {H : Hp} {a : Addr} {ns : List Int} (h : SqL K H a (ns.map V.int)) : Dp K H (.ref a) (.list (ns.map PyData.int)) := by
  refine .lst h ?_
  induction ns with
  | nil => exact .nil
  | cons n r ih => 
    exact .cons (.int n) (by clear ih h; induction r with | nil => exact .nil | cons m r i2 => exact .cons (.int m) i2)
theorem shaped_ints (ns : List Int) : SeqAt.shaped (.list (ns.map PyData.int)) = true := by
  have a : PyData.canLayAll0 (ns.map PyData.int) = true := by
    induction ns with
    | nil => simp [PyData.canLayAll0]
    | cons n r ih => rw [List.map_cons]; simp only [PyData.canLayAll0, ih, PyData.canLay0, Bool.and_self]
  have b : PyData.depthAll (ns.map PyData.int) ≤ 0 := by
    clear a
    induction ns with
    | nil => simp [PyData.depthAll]
    | cons n r ih => rw [List.map_cons]; simp only [PyData.depthAll, PyData.depth]; omega
  unfold SeqAt.shaped
  simp only [PyData.canLay0, a, PyData.depth, Bool.true_and]
  exact decide_eq_true (by omega)
theorem eqv_nil (ns : List Int) : PyData.eqv (.list (ns.map PyData.int)) (.list (([] : List Int).map PyData.int)) = decide (ns = []) := by
  cases ns with
  | nil => simp [PyData.eqv, PyData.eqvAll]
  | cons n r => simp [PyData.eqv, PyData.eqvAll]
theorem map_no {r : Mp} {k : Str} {y : PyData} (h : k ∉ keys r) : (r.map fun p => if p.1 = k then (p.1, y) else p) = r := by
  induction r with
  | nil => rfl
  | cons p r ih =>
    have hp : p.1 ≠ k := fun z => h (List.mem_cons.mpr (.inl z.symm))
    rw [List.map_cons, if_neg hp, ih fun z => h (List.mem_cons_of_mem _ z)]
theorem putM_set : ∀ {m : Mp} {j : Nat} {k : Str} {x y : PyData}, (keys m).Nodup → m[j]? = some (k, x) → putM m k y = m.set j (k, y) := by
  intro m j k x y nd e
  have hm : k ∈ keys m := List.mem_map.mpr ⟨(k, x), List.mem_of_getElem? e, rfl⟩
  have ha : (m.any fun p => decide (p.1 = k)) = true := by rw [lk_any]; exact lk_mem.mpr hm
  unfold putM
  rw [if_pos ha]
  clear ha hm
  induction m generalizing j with
  | nil => simp at e
  | cons p r ih =>
    obtain ⟨n1, n2⟩ := List.nodup_cons.mp nd
    cases j with
    | zero =>
      cases e
      rw [List.map_cons, if_pos rfl, map_no n1]
      rfl
    | succ j =>
      have e' : r[j]? = some (k, x) := by simpa using e
      have hm : k ∈ keys r := List.mem_map.mpr ⟨(k, x), List.mem_of_getElem? e', rfl⟩
      have hp : p.1 ≠ k := fun z => n1 (by show p.1 ∈ keys r; rw [z]; exact hm)
      rw [List.map_cons, if_neg hp, ih n2 e']
      rfl
theorem putM_no {m : Mp} {k : Str} {y : PyData} (h : k ∉ keys m) : putM m k y = m ++ [(k, y)] := by
  unfold putM
  rw [lk_any, lk_none.mpr h]
  rfl
theorem paired_set {α β : Type} {F : α → β → Prop} : ∀ {l : List α} {m : List β} {j : Nat} {x : α} {y : β}, Paired F l m → F x y → Paired F (l.set j x) (m.set j y) := by
  intro l m j x y h hx
  induction h generalizing j with
  | nil => exact .nil
  | cons q t ih =>
    cases j with
    | zero => exact .cons hx t
    | succ j => exact .cons q ih
def dkey : Deed → Str
  | .put k _ => k
  | .drop k => k
def dvs (d : Deed) (v : V) : List V := match d with
  | .put k _ => [.str "put", .str k, v]
  | .drop k => [.str "drop", .str k]
theorem dvs_one (d : Deed) (v : V) : atI (dvs d v) 1 = some (.str (dkey d)) := by
  cases d <;> exact atI_nat (j := 1) rfl
theorem dAt (H : Hp) (t : Addr) (d : Deed) (h : DeedAt H t d) : ∃ v, H t = some (.tup (dvs d v)) := by
  cases d with
  | put k y => obtain ⟨v, h, _⟩ := h; exact ⟨v, h⟩
  | drop k => exact ⟨.non, h.1⟩
theorem PairI.ne {H G : Hp} {t r : Addr} {q : Str × PyData} {ts : List Addr} (h : PairI H G t q) (hr : G r = some (.lst (ts.map V.ref))) : t ≠ r := fun z => by
  obtain ⟨v, h1, _⟩ := h
  rw [z, hr] at h1
  cases ts with
  | nil => cases h1
  | cons a b => cases h1
theorem PairI.off {H G : Hp} {t r : Addr} {q : Str × PyData} {ts : List Addr} {o : HO} (h : PairI H G t q) (hr : G r = some (.lst (ts.map V.ref))) : PairI H (upd G r o) t q := by
  have ne := h.ne hr
  obtain ⟨v, h1, h2⟩ := h
  exact ⟨v, by rw [upd_ne ne]; exact h1, h2⟩
/-- the places of a key -/
def plK (m : Mp) (k : Str) (n : Nat) : Bool := ((m[n]?).map fun x => decide (x.1 = k)).getD false
theorem plK_at {m : Mp} {k : Str} {n : Nat} {x : Str × PyData} (e : m[n]? = some x) : plK m k n = decide (x.1 = k) := by
  unfold plK
  rw [e]
  rfl
theorem out_ints {G : Hp} {keep : Nat → Bool} {n : Nat} {acc : List V} (h : Out (fun i _ y => y = V.int i) keep n G acc) : acc = ((kp keep n).map Int.ofNat).map V.int := by
  unfold Out at h
  generalize kp keep n = l at h
  induction h with
  | nil => rfl
  | cons q _ ih =>
    rw [List.map_cons, List.map_cons, ← ih, q]
    rfl
theorem ixN_nat {n j : Nat} (h : j < n) : ixN n (Int.ofNat j) = some j := by
  unfold ixN
  rw [if_pos (show (0 : Int) ≤ Int.ofNat j from Int.natCast_nonneg j), if_pos (by show (j : Int) < n; omega)]
  rfl
theorem kp_mem {keep : Nat → Bool} {n j : Nat} : j ∈ kp keep n ↔ j < n ∧ keep j = true := by
  unfold kp
  rw [List.mem_filter, List.mem_range]
theorem plK_true {m : Mp} {k : Str} {j : Nat} (h : plK m k j = true) : ∃ x, m[j]? = some (k, x) := by
  unfold plK at h
  cases e : m[j]? with
  | none => rw [e] at h; cases h
  | some x =>
    rw [e] at h
    obtain ⟨a, b⟩ := x
    have e2 : a = k := of_decide_eq_true h
    exact ⟨b, by rw [e2]⟩
theorem plK_none {m : Mp} {k : Str} {n : Nat} (hn : m.length ≤ n) (h : kp (plK m k) n = []) : k ∉ keys m := fun hk => by
  obtain ⟨x, hx, e⟩ := List.mem_map.mp hk
  obtain ⟨j, hj⟩ := List.mem_iff_getElem?.mp hx
  have hl : j < m.length := (List.getElem?_eq_some_iff.mp hj).1
  have : j ∈ kp (plK m k) n := kp_mem.mpr ⟨by omega, by rw [plK_at hj]; exact decide_eq_true e⟩
  rw [h] at this
  cases this
abbrev sDn : Stmt := top 40
theorem scDn : FnScope ["_law_mapping_here", "_law_deeds_here", "_law_found", "_law_key", "_law_deed", "_law_places", "_law_n", "_law_pair"] ["_law_mapping_here", "_law_deeds_here"] (defScope sDn) := ⟨rfl, rfl, rfl, by decide +kernel, rfl, by decide +kernel, by decide +kernel⟩
def spDn : Sp := fun vs H Q _ => ∃ (a p : Addr) (m : Mp) (ts : List Addr) (ds : List Deed) (G : Hp), vs = [.ref a, .ref p] ∧ Same G H ∧ MapAt G a m ∧ OkM 12 m ∧ H p = some (.lst (ts.map V.ref)) ∧ Paired (DeedAt G) ts ds ∧ ds.length ≤ 24 ∧
  ∀ H' r, Same H H' → H r = none → (∃ ts', H' r = some (.lst (ts'.map V.ref)) ∧ Paired (PairI G H') ts' (doneM m ds)) → Q (.ref r) H'
section
variable {P : Program} {w : World} {K : PySem.W.Frag} {mg : Str → Option Value} {base : Heap} {f : Addr} {fd : FuncData}
theorem ok_dn (F : Df K mg "_law_done" sDn ["_law_mapping_here", "_law_deeds_here"] f fd) (B : Bi mg) : FnOk P w K mg base CX0 1 f fd ["_law_mapping_here", "_law_deeds_here"] spDn := by
  refine F.fn.ok scDn (fun vs H Q E h => ?_) (fun cdv A outer s H vs Q E hr h => ?_)
  · obtain ⟨a, p, m, ts, ds, G, rfl, _⟩ := h
    rfl
  · obtain ⟨a, p, m, ts, ds, G, rfl, sG, ⟨ks, hrdG, hkv⟩, okm, hp, hds, hdl, q⟩ := h
    have hrd : Rd H a (.dK ks) := (rdS_of sG).rd a _ rfl hrdG
    have hu := hu_of hr
    refine ⟨_, pss_cons (ps_set (i := 2) scDn.nd rfl (Or.inr rfl) (pe_lockR (pe_lc (own := [("_law_key", 3)]) (g := gName 3) (tt := tYes) rfl scDn.nd (pi_keys (pv 0)) (blkOk_by (N := ["_law_mapping_here", "_law_deeds_here", "_law_found", "_law_key", "_law_deed", "_law_places", "_law_n", "_law_pair"]) (sc := defScope sDn) (by decide +kernel))
          (fun _ _ _ _ _ => pg_name (i := 3) scDn.nd rfl (Or.inl rfl)) (fun _ _ _ _ _ => pts_nil) (fun _ _ _ _ _ => pe_lst (pa_cons (pv 3) (pa_cons (pe_dget hu (pv 0) (pv 3) (fun _ _ => rfl)) pa_nil))))))
      (pss_cons (ps_for PassesOwn.never rfl (pi_list (pv 1)) (pg_name (i := 4) scDn.nd rfl (Or.inr rfl))
        (pss_cons (ps_setLc (i := 5) (own := [("_law_n", 6)]) (g := gName 6) rfl scDn.nd rfl rfl (sw_true rfl rfl rfl (by decide +kernel)) (pi_range1 (by rfl) B.range (pa_cons (pe_callB call_len_seq (by rfl) B.len PySem.boot_len (pa_cons (pv 2) pa_nil)) pa_nil)) (blkOk_by (N := ["_law_mapping_here", "_law_deeds_here", "_law_found", "_law_key", "_law_deed", "_law_places", "_law_n", "_law_pair"]) (sc := defScope sDn) (by decide +kernel))
          (fun _ _ _ _ _ => pg_name (i := 6) scDn.nd rfl (Or.inl rfl)) (fun _ _ _ _ _ => pts_one (pt_cmpR op_eq (pe_ix (ix_listK (K := K) rfl) (pe_ix (ix_listK (K := K) rfl) (pv 2) (pv 6) (fun _ _ => rfl)) pe_int (fun _ _ => rfl)) (pe_ix (ix_tupK (K := K) rfl) (pv 4) pe_int (fun _ _ => rfl)) (nomark _))) (fun _ _ _ _ _ => pv 6))
        (pss_one (ps_if (pt_cmpR op_eq (pe_ix ix_tup (pv 4) pe_int (fun _ _ => rfl)) pe_str (nomark _))
          (pss_one (ps_set (i := 2) scDn.nd rfl (Or.inr rfl) (pe_lc (own := [("_law_pair", 7)]) (g := gName 7) rfl scDn.nd (pi_list (pv 2)) (blkOk_by (N := ["_law_mapping_here", "_law_deeds_here", "_law_found", "_law_key", "_law_deed", "_law_places", "_law_n", "_law_pair"]) (sc := defScope sDn) (by decide +kernel))
            (fun _ _ _ _ _ => pg_name (i := 7) scDn.nd rfl (Or.inl rfl)) (fun _ _ _ _ _ => pts_one (pt_cmpR op_ne (pe_ix (ix_listK (K := K) rfl) (pv 7) pe_int (fun _ _ => rfl)) (pe_ix (ix_tupK (K := K) rfl) (pv 4) pe_int (fun _ _ => rfl)) (nomark _))) (fun _ _ _ _ _ => pv 7))))
          (pss_one (ps_if (pt_cmpR (op_eqD hr.units) (pv 5) (pe_lst pa_nil) (nomark _))
            (pss_one (ps_expr (pe_bm PySem.F.plainAttrs_list PySem.F.slot_list_append PySem.F.type_list_append mt_append (pv 2) (pa_cons (pe_lst (pa_cons (pe_ix ix_tup (pv 4) pe_int (fun _ _ => rfl)) (pa_cons (pe_ix ix_tup (pv 4) pe_int (fun _ _ => rfl)) pa_nil))) pa_nil))))
            (pss_one (ps_asg (pe_lst (pa_cons (pe_ix ix_tup (pv 4) pe_int (fun _ _ => rfl)) (pa_cons (pe_ix ix_tup (pv 4) pe_int (fun _ _ => rfl)) pa_nil))) (pg_sub (pv 2) (pe_ix ix_list (pv 5) pe_int (fun _ _ => rfl)) set_list)))))))))
      (pss_one (ps_ret (pv 2)))), ?_⟩
    have hlen : ks.length = m.length := Paired.length hkv
    have hml := okm.len
    have nd := hkv.nodup okm.nd
    refine ⟨a, ks, hrd, fun od H1 h1 rs off => ?_⟩
    refine ⟨_, rfl, a, od, rfl, .inl ⟨ks, h1, fun D hD => lc_gen gen_keys hD (fun H s' => s' _ _ h1)
        (fun i Gx y => ∃ t, y = V.ref t ∧ ∀ x, m[i]? = some x → PairI G Gx t x) (fun _ => true) (fun i Gx G' y s' ⟨t, e, h⟩ => ⟨t, e, fun x hx => (h x hx).mono s'⟩) (by omega) ?_ ?_⟩⟩
    · rintro i x H2 acc Nx hi ⟨k, u, e1, rfl⟩ s2 hacc _ nx
      refine ⟨rfl, ifT (B := Nx H2) rfl ?_⟩
      obtain ⟨j, y, e2, rfl, hu'⟩ := hkv.get e1
      have hd2 : Rd H2 a (.dK ks) := .inr ⟨od, s2 _ _ h1⟩
      refine ⟨_, rfl, _, rfl, _, rfl, a, u, rfl, .inl ⟨ks, .inr j, hd2, rfl, (valV_get nd e1).symm⟩, l2_line, fun t ht => ?_⟩
      refine nx (.ref t) _ (same_upd ht) rfl ⟨t, rfl, fun x hx => ?_⟩
      rw [e2] at hx; cases hx
      exact ⟨u, by rw [hid_ne (ne_of_none hacc ht).symm, upd_same]; rfl, hu'⟩
    intro H2 acc s2 hD2 out
    refine ⟨s2 _ _ h1, fun H3 sb rs2 off2 => ?_⟩
    have hDn : H D = none := dm_off h1 off D hD
    have hDa : D ≠ a := fun z => by rw [z, h1] at hD; cases hD
    have hD3 : H3 D = some (.lst acc) := by rw [off2 D hDa]; exact hD2
    have sH := sb s2
    obtain ⟨hal, hall⟩ := out_all out
    have pr : Paired (fun y x => ∃ t, y = V.ref t ∧ PairI G (hid D H2) t x) acc m := paired_ix2 (by omega) fun i y x h1 h2 => by
      obtain ⟨t, e, h⟩ := hall i y h1
      exact ⟨t, e, h x h2⟩
    obtain ⟨ts0, rfl, hts0⟩ := refs_paired pr
    have hts3 : Paired (PairI G H3) ts0 m := Paired.mapP hts0 fun t x h => (h.mono (rdS_of hid_sub)).mono rs2
    clear hts0 pr hal hall out hD2 s2 sb rs2 off2 hDa hD
    refine ⟨_, rfl, p, rfl, ⟨_, SqL.of (sH _ _ hp)⟩, for_list (xs := ts.map V.ref) (fun i σ H3 => Same H H3 ∧ ∃ r ts3 b3 b4 b5 b6 b7, σ = [some (.ref a), some (.ref p), some (.ref r), b3, b4, b5, b6, b7] ∧ H r = none ∧ H3 r = some (.lst (ts3.map V.ref)) ∧ Paired (PairI G H3) ts3 (doneM m (ds.take i)))
      ⟨sH, D, ts0, _, _, _, _, _, rfl, hDn, hD3, hts3⟩ (fun i σ H3 _ h => SqL.of (h.1 _ _ hp)) ?_ ?_⟩
    · clear hDn hD3 hts3 sH
      rintro i x σ H3 hx ⟨sH, r, ts3, b3, b4, b5, b6, b7, rfl, hrn, hr3, hk3⟩
      obtain ⟨t, ht, rfl⟩ := map_at hx
      obtain ⟨dd, hdd, hdat⟩ := paired_get hds ht
      have hln := len_done (ds.take i) m
      have hlt : (ds.take i).length ≤ ds.length := by rw [List.length_take]; omega
      have hkl : ts3.length ≤ 40 := by
        have := Paired.length hk3
        omega
      obtain ⟨vd, htd⟩ := dAt H t dd (hdat.mono (rdS_of sG))
      have ndm := nd_done (ds.take i) okm.nd
      have hl3 : ts3.length = (doneM m (ds.take i)).length := Paired.length hk3
      have hstep := done_take (m := m) hdd
      generalize doneM m (ds.take i) = mi at hk3 ndm hl3 hstep hln
      refine ⟨_, rfl, r, _, rfl, .inl (SqL.of hr3), _, rfl, by omega, by rw [List.length_map]; omega, fun D hD => ?_⟩
      have en : ((ts3.map V.ref).length : Int).toNat = ts3.length := by rw [List.length_map]; omega
      rw [en]
      refine lc_gen gen_range hD (fun _ _ => trivial) (fun i _ y => y = V.int i) (plK mi (dkey dd)) (fun _ _ _ _ _ h => h) (by omega) ?_ ?_
      · rintro i' x H4 acc Nx hi rfl s4 hacc nx0 nx1
        refine ⟨rfl, ?_⟩
        have hi' : i' < ts3.length := hi
        have et : ts3[i']? = some ts3[i'] := List.getElem?_eq_getElem hi'
        generalize ts3[i'] = t' at et
        obtain ⟨x', hx', v, hv, _⟩ := paired_get hk3 et
        refine ⟨_, rfl, _, rfl, r, _, _, .ref t', rfl, rfl, SqL.of (s4 _ _ hr3), ?_, t', _, _, _, rfl, rfl, SqL.of (s4 _ _ hv), atI_nat (j := 0) rfl, _, rfl, t, _, _, _, rfl, rfl, SqT.of (s4 _ _ (sH _ _ htd)), dvs_one dd vd, rfl, _, rfl, ?_⟩
        · rw [Int.zero_add]
          exact atI_nat (by rw [List.getElem?_map, et]; rfl)
        · by_cases hk : x'.1 = dkey dd
          · exact ifT (by rw [hk]; exact decide_eq_true rfl) ⟨_, rfl, nx1 _ H4 (fun _ _ z => z) (by rw [plK_at hx']; exact decide_eq_true hk) (by rw [Int.zero_add])⟩
          · exact ifF (decide_eq_false fun z => hk (V.str.inj z)) (nx0 H4 (fun _ _ z => z) (by rw [plK_at hx']; exact decide_eq_false hk))
      intro H4 acc s4 hD4 out
      have eacc := out_ints out
      subst eacc
      have hr4 := s4 _ _ hr3
      have hk4 : Paired (PairI G H4) ts3 mi := Paired.mapP hk3 fun t x h => h.mono (rdS_of s4)
      have s04 := sH.trans s4
      have ht4 := s04 _ _ htd
      have hDr : D ≠ r := fun z => by rw [z, hr3] at hD; cases hD
      cases dd with
      | drop k =>
        refine ⟨_, rfl, t, _, _, _, rfl, rfl, SqT.of ht4, atI_nat (j := 0) rfl, rfl, _, rfl, ifT (decide_eq_true rfl) ?_⟩
        refine ⟨_, rfl, r, rfl, ⟨_, SqL.of hr4⟩, fun D2 hD2 => ?_⟩
        refine lc_gen gen_list hD2 (fun H s' => SqL.of (s' _ _ hr4)) (fun i Gx y => ∃ t, y = V.ref t ∧ ∀ x, mi[i]? = some x → PairI G Gx t x) (fun i => !plK mi k i) (fun i Gx G' y s' ⟨t, e, h⟩ => ⟨t, e, fun x hx => (h x hx).mono s'⟩) (by rw [List.length_map]; omega) ?_ ?_
        · rintro i' x H5 acc Nx hi hx' s5 hacc nx0 nx1
          refine ⟨rfl, ?_⟩
          obtain ⟨t', et, rfl⟩ := map_at hx'
          obtain ⟨x', ex, hq⟩ := paired_get hk4 et
          obtain ⟨v, hv, hd⟩ := id hq
          refine ⟨_, rfl, t', _, _, _, rfl, rfl, SqL.of (s5 _ _ hv), atI_nat (j := 0) rfl, _, rfl, t, _, _, _, rfl, rfl, SqT.of (s5 _ _ ht4), atI_nat (j := 1) rfl, rfl, _, rfl, ?_⟩
          by_cases hk : x'.1 = k
          · exact ifF (by rw [hk]; simp) (nx0 H5 (fun _ _ z => z) (by rw [plK_at ex, hk]; simp))
          · refine ifT (by simp [hk]) ⟨_, rfl, nx1 _ H5 (fun _ _ z => z) (by rw [plK_at ex]; simp [hk]) ⟨t', rfl, fun x hx2 => ?_⟩⟩
            rw [ex] at hx2; cases hx2
            refine ⟨v, ?_, hd⟩
            have hne : t' ≠ D2 := fun z => by rw [z, hD2] at hv; cases hv
            rw [hid_ne hne]
            exact s5 _ _ hv
        intro H5 acc s5 hD5 out2
        have kpf := kp_filter (m := mi) (keep := fun i => !plK mi k i) (P := fun x => decide (x.1 ≠ k)) (fun i x hx => by
          show (!plK mi k i) = _
          rw [plK_at hx]
          simp) mi.length (Nat.le_refl _)
        rw [List.take_length] at kpf
        rw [List.length_map, hl3] at out2
        have pr : Paired (fun y (x : Str × PyData) => ∃ t, y = V.ref t ∧ PairI G (hid D2 H5) t x) acc (mi.filter fun x => decide (x.1 ≠ k)) :=
          paired_comp (fun i y x h1 h2 => by obtain ⟨t, e, h⟩ := h1; exact ⟨t, e, h x h2⟩) out2 kpf
        obtain ⟨ts5, rfl, hts5⟩ := refs_paired pr
        refine ⟨s04.trans s5, D2, ts5, _, _, _, _, _, rfl, s04.free hD2, hD5, ?_⟩
        rw [hstep]
        exact Paired.mapP hts5 fun t x h => h.mono (rdS_of hid_sub)
      | put k y =>
        obtain ⟨v0, htup, hv0, hgv, hok⟩ := hdat
        replace htup := sG _ _ htup
        rw [htd] at htup
        have ev : vd = v0 := by
          have h1 := Option.some.inj htup
          injection h1 with h2
          exact (List.cons.inj (List.cons.inj (List.cons.inj h2).2).2).1
        subst ev
        refine ⟨_, rfl, t, _, _, _, rfl, rfl, SqT.of ht4, atI_nat (j := 0) rfl, rfl, _, rfl, ifF (decide_eq_false (by decide +kernel)) ?_⟩
        refine ⟨_, rfl, l0_line, fun e he => ?_⟩
        have s5 : Same H4 (upd H4 e (.lst [])) := same_upd he
        have hD5 := s5 _ _ hD4
        refine ⟨_, _, dp_ints (SqL.of hD5), dp_ints (ns := []) (SqL.of upd_same), shaped_ints _, shaped_ints _, _, rfl, ?_⟩
        rw [eqv_nil]
        have hr5 := s5 _ _ hr4
        have hk5 : Paired (PairI G (upd H4 e (.lst []))) ts3 mi := Paired.mapP hk4 fun t x h => h.mono (rdS_of s5)
        have ht5 := s5 _ _ ht4
        have s05 := s04.trans s5
        generalize upd H4 e (.lst []) = H5 at s5 hD5 hr5 hk5 ht5 s05 ⊢
        by_cases hnil : (kp (plK mi (dkey (.put k y))) ts3.length).map Int.ofNat = []
        · refine ifT (decide_eq_true hnil) ?_
          have hno : k ∉ keys mi := plK_none (by omega) (List.map_eq_nil_iff.mp hnil)
          refine ⟨_, rfl, .inl ⟨rfl, _, SqL.of hr5⟩, _, rfl, t, _, _, _, rfl, rfl, SqT.of ht5, atI_nat (j := 1) rfl, _, rfl, t, _, _, _, rfl, rfl, SqT.of ht5, atI_nat (j := 2) rfl, l2_line, fun e2 he2 => ?_⟩
          have s6 : Same H5 (upd H5 e2 (.lst [.str k, vd])) := same_upd he2
          have hr6 := s6 _ _ hr5
          refine ⟨r, _, _, rfl, rfl, hr6, by rw [List.length_map]; exact lt_line (by omega), ?_⟩
          refine ⟨fun b o eb => by rw [upd_ne (ne_of_none eb hrn)]; exact s6 b o (s05 b o eb), r, ts3 ++ [e2], _, _, _, _, _, rfl, hrn, by rw [upd_same, List.map_append]; rfl, ?_⟩
          rw [hstep]
          show Paired _ _ (putM mi k y)
          rw [putM_no hno]
          refine paired_app (Paired.mapP hk5 fun t x h => (h.mono (rdS_of s6)).off hr6) ?_
          exact PairI.off ⟨vd, upd_same, hv0⟩ hr6
        · refine ifF (decide_eq_false hnil) ?_
          obtain ⟨j, hj⟩ : ∃ j, j ∈ kp (plK mi k) ts3.length ∧ (kp (plK mi k) ts3.length)[0]? = some j := by
            cases ek : kp (plK mi k) ts3.length with
            | nil => exact absurd (by show (kp (plK mi k) ts3.length).map Int.ofNat = []; rw [ek]; rfl) hnil
            | cons j r => exact ⟨j, List.mem_cons_self, rfl⟩
          obtain ⟨hjm, hj0⟩ := hj
          obtain ⟨hjl, hjp⟩ := kp_mem.mp hjm
          obtain ⟨x0, hx0⟩ := plK_true hjp
          refine ⟨_, rfl, t, _, _, _, rfl, rfl, SqT.of ht5, atI_nat (j := 1) rfl, _, rfl, t, _, _, _, rfl, rfl, SqT.of ht5, atI_nat (j := 2) rfl, l2_line, fun e2 he2 => ?_⟩
          have s6 : Same H5 (upd H5 e2 (.lst [.str k, vd])) := same_upd he2
          have hr6 := s6 _ _ hr5
          refine ⟨_, rfl, _, rfl, D, _, _, .int (Int.ofNat j), rfl, rfl, SqL.of (s6 _ _ hD5), atI_nat (j := 0) ?_, r, _, _, j, rfl, rfl, hr6, ixN_nat (by rw [List.length_map]; exact hjl), ?_⟩
          · rw [List.getElem?_map, List.getElem?_map]
            show ((( kp (plK mi k) ts3.length)[0]?.map Int.ofNat).map V.int) = _
            rw [hj0]
            rfl
          refine ⟨fun b o eb => by rw [upd_ne (ne_of_none eb hrn)]; exact s6 b o (s05 b o eb), r, ts3.set j e2, _, _, _, _, _, rfl, hrn, by rw [upd_same, List.map_set], ?_⟩
          rw [hstep]
          show Paired _ _ (putM mi k y)
          rw [putM_set ndm hx0]
          refine paired_set (Paired.mapP hk5 fun t x h => (h.mono (rdS_of s6)).off hr6) ?_
          exact PairI.off ⟨vd, upd_same, hv0⟩ hr6
    · rintro σ H4 ⟨s4, r, ts4, b3, b4, b5, b6, b7, rfl, hrn, hr4, hk4⟩
      have e : ts.length = ds.length := Paired.length hds
      rw [List.length_map, e, List.take_length] at hk4
      exact ⟨_, rfl, q H4 r s4 hrn ⟨ts4, hr4, hk4⟩⟩
end
end Mw

end

section
set_option Elab.async false
set_option linter.all false
set_option maxRecDepth 100000
set_option maxHeartbeats 4000000
/-! _law_merged. -/
namespace Mw
open PySem PySem.Spec PyProof.Rows L2
abbrev sLM : Stmt := top 43
theorem scLM : FnScope ["_law_base", "_law_one", "_law_other", "_law_deeds_here", "_law_key"] ["_law_base", "_law_one", "_law_other"] (defScope sLM) := ⟨rfl, rfl, rfl, by decide +kernel, rfl, by decide +kernel, by decide +kernel⟩
def spLM : Sp := fun vs H Q _ => ∃ (a b c : Addr) (m1 m2 m3 : Mp), vs = [.ref a, .ref b, .ref c] ∧ MapAt H a m1 ∧ MapAt H b m2 ∧ MapAt H c m3 ∧ OkM 12 m1 ∧ OkM 12 m2 ∧ OkM 12 m3 ∧
  ∀ H' r, Same H H' → H r = none → PairsAt H' r (mrg m1 m2 m3) → Q (.ref r) H'
section
variable {P : Program} {w : World} {K : PySem.W.Frag} {mg : Str → Option Value} {base : Heap} {f ft fn : Addr} {fd ftd fnd : FuncData}
theorem ok_lm (F : Df K mg "_law_merged" sLM ["_law_base", "_law_one", "_law_other"] f fd) (B : Bi mg) (T : Df K mg "_law_at" sAt ["_law_mapping_here", "_law_key"] ft ftd) (N : Df K mg "_law_done" sDn ["_law_mapping_here", "_law_deeds_here"] fn fnd)
    (GT : FnG P w K mg base CX0 1 ft ftd ["_law_mapping_here", "_law_key"] spAt) (GN : FnOk P w K mg base CX0 1 fn fnd ["_law_mapping_here", "_law_deeds_here"] spDn) : FnG P w K mg base CX0 2 f fd ["_law_base", "_law_one", "_law_other"] spLM := by
  refine fn0G F.fn scLM (fun vs H Q E h => ?_) (fun cdv A outer s H vs Q E hG hr h => ?_)
  · obtain ⟨a, b, c, m1, m2, m3, rfl, _⟩ := h
    rfl
  · obtain ⟨a, b, c, m1, m2, m3, rfl, ha, hb, hc, o1, o2, o3, q⟩ := h
    have hu := hu_of hr
    refine ⟨_, pss_cons (ps_lockS2 (ps_setLc (i := 3) (own := [("_law_key", 4)]) (g := gName 4) rfl scLM.nd rfl rfl (sw_true rfl rfl rfl (by decide +kernel)) (pi_keys (pv 0)) (blkOk_by (N := ["_law_base", "_law_one", "_law_other", "_law_deeds_here", "_law_key"]) (sc := defScope sLM) (by decide +kernel))
          (fun _ _ _ _ _ => pg_name (i := 4) scLM.nd rfl (Or.inl rfl)) (fun _ _ _ _ _ => pts_one (pt_cmp (pc_dnotin hu (pv 4) (pv 2)))) (fun _ _ _ _ _ => pe_tup (pa_cons pe_str (pa_cons (pv 4) pa_nil)))))
        (pss_cons (ps_lockS2 (ps_for PassesOwn.never rfl (pi_keys (pv 2)) (pg_name (i := 4) scLM.nd rfl (Or.inl rfl))
          (pss_one (ps_if (PW.pt (pw_and (pt_cmpR op_ne (pe_callG GT hG hr rfl T.m T.fn.kp T.b .nil pass0 (pa_cons (pv 0) (pa_cons (pv 4) pa_nil))) (pe_callG GT hG hr rfl T.m T.fn.kp T.b .nil pass0 (pa_cons (pv 2) (pa_cons (pv 4) pa_nil))) (nomark _))
              (pw_and1 (pt_cmpR op_eq (pe_callG GT hG hr rfl T.m T.fn.kp T.b .nil pass0 (pa_cons (pv 0) (pa_cons (pv 4) pa_nil))) (pe_callG GT hG hr rfl T.m T.fn.kp T.b .nil pass0 (pa_cons (pv 1) (pa_cons (pv 4) pa_nil))) (nomark _)))))
            (pss_one (ps_expr (pe_bm PySem.F.plainAttrs_list PySem.F.slot_list_append PySem.F.type_list_append mt_append (pv 3) (pa_cons (pe_tup (pa_cons pe_str (pa_cons (pv 4) (pa_cons (pe_dget hu (pv 2) (pv 4) (fun _ _ => rfl)) pa_nil)))) pa_nil)))) pss_nil))))
        (pss_one (ps_ret (pe_call GN hr rfl N.m N.fn.kp N.b .nil pass0 (pa_cons (pv 1) (pa_cons (pv 3) pa_nil)))))), ?_⟩
    obtain ⟨k1, hr1, hv1⟩ := ha
    obtain ⟨k2, hr2, hv2⟩ := hb
    obtain ⟨k3, hr3, hv3⟩ := hc
    have l1 := o1.len
    have l3 := o3.len
    have e1 : k1.length = m1.length := Paired.length hv1
    have e3 : k3.length = m3.length := Paired.length hv3
    have nd3 := hv3.nodup o3.nd
    refine ⟨a, k1, hr1, fun od H4 h4 rs4 off4 => ?_⟩
    refine ⟨_, rfl, a, od, rfl, .inl ⟨k1, h4, fun D hD => lc_gen gen_keys hD (fun H s' => s' _ _ h4)
      (fun i G y => ∃ t, y = V.ref t ∧ ∀ x, m1[i]? = some x → DeedAt G t (.drop x.1)) (fun i => ((m1[i]?).map fun x => (lk m3 x.1).isNone).getD false)
      (fun i G G' y s' ⟨t, e, h⟩ => ⟨t, e, fun x hx => (h x hx).mono s'⟩) (by omega) ?_ ?_⟩⟩
    · rintro i x H5 acc Nx hi ⟨k, v, ek, rfl⟩ s5 hacc nx0 nx1
      obtain ⟨j, y, e2, rfl, hy⟩ := hv1.get ek
      refine ⟨rfl, ?_⟩
      have hc5 : MapAt H5 c m3 := (mapAt_ks hr3 hv3).mono (rs4.trans (rdS_of s5))
      obtain ⟨o, g, io, vo⟩ := hc5.get j
      refine ⟨_, rfl, _, rfl, c, o, rfl, g, _, rfl, ?_⟩
      have hkp : ((m1[i]?).map fun x => (lk m3 x.1).isNone).getD false = !o.isSome := by
        rw [e2, io]
        show (lk m3 j).isNone = !(lk m3 j).isSome
        cases lk m3 j <;> rfl
      cases hos : o.isSome with
      | true =>
        rw [hos] at hkp
        exact ifF rfl (nx0 H5 (fun _ _ z => z) hkp)
      | false =>
        rw [hos] at hkp
        refine ifT rfl ⟨_, rfl, l2_line, fun t ht => ?_⟩
        refine nx1 (.ref t) _ (same_upd ht) hkp ⟨t, rfl, fun x hx => ?_⟩
        rw [e2] at hx; cases hx
        refine ⟨?_, o1.key (j, y) (List.mem_of_getElem? e2)⟩
        rw [hid_ne (ne_of_none hacc ht).symm, upd_same]
        rfl
    intro H5 acc s5 hD5 out
    refine ⟨s5 _ _ h4, fun H6 ea rs6 off6 => ?_⟩
    have s36 := lock_same off4 s5 ea off6
    have hDa : D ≠ a := fun z => by rw [z, h4] at hD; cases hD
    have hD3 : H D = none := by rw [← off4 D hDa]; exact hD
    have hD6 : H6 D = some (.lst acc) := by rw [off6 D hDa]; exact hD5
    have kpf := kp_filter (m := m1) (keep := fun i => ((m1[i]?).map fun x => (lk m3 x.1).isNone).getD false) (P := fun x => (lk m3 x.1).isNone) (fun i x hx => by
      show ((m1[i]?).map fun x => (lk m3 x.1).isNone).getD false = _
      rw [hx]
      rfl) m1.length (Nat.le_refl _)
    rw [List.take_length] at kpf
    rw [e1] at out
    have pr : Paired (fun y (x : Str × PyData) => ∃ t, y = V.ref t ∧ DeedAt (hid D H5) t (.drop x.1)) acc (m1.filter fun x => (lk m3 x.1).isNone) :=
      paired_comp (fun i y x h1 h2 => by obtain ⟨t, e, h⟩ := h1; exact ⟨t, e, h x h2⟩) out kpf
    obtain ⟨ts, rfl, hts⟩ := refs_paired pr
    have eds : ((Mw.keys m1).filter fun k => (lk m3 k).isNone).map Deed.drop = (m1.filter fun x => (lk m3 x.1).isNone).map fun x => Deed.drop x.1 := by
      unfold Mw.keys
      rw [List.filter_map, List.map_map]
      rfl
    have hts1 : Paired (DeedAt (hid D H6)) ts (((Mw.keys m1).filter fun k => (lk m3 k).isNone).map Deed.drop) := by
      rw [eds]
      refine paired_mapR (Paired.mapP hts fun t x h => ?_)
      exact h.mono rs6.hid
    have hdl1 : (((Mw.keys m1).filter fun k => (lk m3 k).isNone).map Deed.drop).length ≤ 12 := by
      rw [List.length_map]
      refine Nat.le_trans (List.length_filter_le _ _) ?_
      unfold Mw.keys
      rw [List.length_map]
      exact l1
    generalize hds1 : ((Mw.keys m1).filter fun k => (lk m3 k).isNone).map Deed.drop = ds1 at hts1 hdl1
    have w36 : RdS H (hid D H6) := rdS_of (hid_of s36 hD3)
    have hr36 : Rd H6 c (.dK k3) := (rdS_of s36).rd c _ rfl hr3
    refine ⟨c, k3, hr36, fun od2 H7 h7 rs7 off7 => ?_⟩
    have hDc : D ≠ c := fun z => rd_ne hD3 hr3 z
    have hD7 : H7 D = some (.lst (ts.map V.ref)) := by rw [off7 D hDc]; exact hD6
    have w37 : RdS H (hid D H7) := w36.trans rs7.hid
    refine ⟨_, rfl, c, od2, rfl, .inl ⟨k3, h7, for_keys (fun i σ H8 => ∃ x ts, σ = [some (.ref a), some (.ref b), some (.ref c), some (.ref D), x] ∧ Same (hid D H7) (hid D H8) ∧ H8 D = some (.lst (ts.map V.ref)) ∧
      Paired (DeedAt (hid D H8)) ts (ds1 ++ ((m3.take i).filter fun q => ch m1 m3 q.1 && !ch m1 m2 q.1).map fun q => Deed.put q.1 q.2))
      ⟨_, ts, rfl, (fun _ _ z => z), hD7, by simpa using Paired.mapP hts1 fun _ _ h => h.mono rs7.hid⟩ ?_ ?_ ?_⟩⟩
    · rintro i σ H8 hi ⟨x, ts, rfl, s8, _, _⟩
      have := s8 c _ (by rw [hid_ne (Ne.symm hDc)]; exact h7)
      rw [hid_ne (Ne.symm hDc)] at this
      exact this
    · rintro i k v σ H8 ek ⟨x, ts, rfl, s8, hD8, hts8⟩
      obtain ⟨j, y, e2, rfl, hy⟩ := hv3.get ek
      have okj := o3.key (j, y) (List.mem_of_getElem? e2)
      have gdj := o3.val (j, y) (List.mem_of_getElem? e2)
      have w8 : RdS H (hid D H8) := w37.trans (rdS_of s8)
      have w8' : RdS H H8 := w8.trans (rdS_of hid_sub)
      have hl8 : ts.length ≤ 40 := by
        have h1 := Paired.length hts8
        rw [List.length_append, List.length_map] at h1
        have h2 := List.length_filter_le (fun q : Str × PyData => ch m1 m3 q.1 && !ch m1 m2 q.1) (m3.take i)
        have h3 : (m3.take i).length ≤ m3.length := by rw [List.length_take]; omega
        omega
      have a1 := (mapAt_ks hr1 hv1).mono w8'
      have a2 := (mapAt_ks hr2 hv2).mono w8'
      have a3 := (mapAt_ks hr3 hv3).mono w8'
      refine ⟨_, rfl, _, rfl, a, m1, j, 12, rfl, a1, o1, _, rfl, _, rfl, c, m3, j, 12, rfl, a3, o3, rfl, _, rfl, ?_⟩
      rw [atS_ch o3 o1]
      have c13 : ch m3 m1 j = ch m1 m3 j := by
        unfold ch
        rw [eqD_symm]
      rw [c13]
      cases c1 : ch m1 m3 j with
      | false =>
        refine iteF (iteF ⟨_, ts, rfl, s8, hD8, ?_⟩)
        rw [take_filter _ e2, if_neg (by show ¬ (ch m1 m3 j && !ch m1 m2 j) = true; rw [c1]; exact Bool.false_ne_true)]
        exact hts8
      | true =>
      refine iteT ⟨_, rfl, _, rfl, a, m1, j, 12, rfl, a1, o1, _, rfl, _, rfl, b, m2, j, 12, rfl, a2, o2, rfl, _, rfl, ?_⟩
      rw [atS_eq o1 o2]
      have c12 : eqD (lk m1 j) (lk m2 j) = !ch m1 m2 j := by unfold ch; rw [Bool.not_not]
      rw [c12]
      cases c2 : ch m1 m2 j with
      | true =>
        refine ifF rfl ⟨_, ts, rfl, s8, hD8, ?_⟩
        rw [take_filter _ e2, if_neg (by show ¬ (ch m1 m3 j && !ch m1 m2 j) = true; rw [c1, c2]; exact Bool.false_ne_true)]
        exact hts8
      | false =>
        refine ifT rfl ?_
        have hr10 : Rd H8 c (.dK k3) := w8'.rd c _ rfl hr3
        refine ⟨_, rfl, .inl ⟨rfl, _, SqL.of hD8⟩, _, rfl, _, rfl, _, rfl, c, v, rfl, .inl ⟨k3, .inr j, hr10, rfl, (valV_get nd3 ek).symm⟩, l3_line, fun t ht => ?_⟩
        have htD : t ≠ D := (ne_of_none hD8 ht).symm
        have s11 : Same (hid D H8) (hid D (upd H8 t (.tup [V.str "put", kV (.inr j), v]))) := hid_mono fun b o _ e => same_upd ht b o e
        refine ⟨D, _, _, rfl, rfl, by rw [upd_ne htD.symm]; exact hD8, by rw [List.length_map]; exact lt_line (by omega), ?_⟩
        refine ⟨_, ts ++ [t], rfl, ?_, by rw [upd_same, List.map_append]; rfl, ?_⟩
        · rw [upd_hid]
          exact s8.trans s11
        · rw [upd_hid, take_filter _ e2, if_pos (by show (ch m1 m3 j && !ch m1 m2 j) = true; rw [c1, c2]; rfl), List.map_append, ← List.append_assoc]
          refine paired_app (Paired.mapP hts8 fun _ _ h => h.mono (rdS_of s11)) ?_
          refine ⟨v, ?_, hy.mono (w8.trans (rdS_of s11)), gdj, okj⟩
          rw [hid_ne htD, upd_same]
          rfl
    · rintro σ H8 ⟨x, ts, rfl, s8, hD8, hts8⟩
      have hc8 : H8 c = some (.frz od2 (.dK k3)) := by
        have := s8 c _ (by rw [hid_ne (Ne.symm hDc)]; exact h7)
        rw [hid_ne (Ne.symm hDc)] at this
        exact this
      refine ⟨hc8, fun H9 ec rs9 off9 => ?_⟩
      have w8 : RdS H (hid D H8) := w37.trans (rdS_of s8)
      have hD9 : H9 D = some (.lst (ts.map V.ref)) := by rw [off9 D hDc]; exact hD8
      rw [e3, List.take_length] at hts8
      have s39 : Same H H9 := fun x o e => by
        have h6 := s36 x o e
        have hxD : x ≠ D := ne_of_none e hD3
        by_cases hxc : x = c
        · subst hxc; rw [ec]; exact h6
        · rw [off9 x hxc]
          have h8 := s8 x o (by rw [hid_ne hxD, off7 x hxc]; exact h6)
          rw [hid_ne hxD] at h8
          exact h8
      refine ⟨_, rfl, _, rfl, b, D, m2, ts, _, _, rfl, (fun _ _ z => z), (mapAt_ks hr2 hv2).mono (w8.trans ((rdS_of hid_sub).trans rs9)), o2, hD9, Paired.mapP hts8 fun _ _ h => h.mono ((rdS_of hid_sub).trans rs9), ?_, fun H10 r s10 hrn ⟨ts', hm1, hm2⟩ => ?_⟩
      · rw [List.length_append, List.length_map]
        have h2 := List.length_filter_le (fun q : Str × PyData => ch m1 m3 q.1 && !ch m1 m2 q.1) m3
        omega
      · refine q H10 r (s39.trans s10) (s39.free hrn) ?_
        unfold mrg mdeeds
        rw [hds1]
        exact ⟨ts', hm1, Paired.mapP hm2 fun t x h => h.pair s10⟩
end
end Mw

end

section
set_option Elab.async false
set_option linter.all false
set_option maxRecDepth 100000
set_option maxHeartbeats 4000000
/-! _law_listed. -/
namespace Mw
open PySem PySem.Spec PyProof.Rows L2
abbrev sLi : Stmt := top 45
theorem scLi : FnScope ["_law_base", "_law_one", "_law_other", "_law_found", "_law_key"] ["_law_base", "_law_one", "_law_other"] (defScope sLi) := ⟨rfl, rfl, rfl, by decide +kernel, rfl, by decide +kernel, by decide +kernel⟩
section
variable {w : World} {K : PySem.W.Frag} {mg : Str → Option Value} {base : Heap} {f fg fc fa : Addr} {fd fgd fad : FuncData}
theorem ok_li (F : Df K mg "_law_listed" sLi ["_law_base", "_law_one", "_law_other"] f fd) (G : Df K mg "conflicts" sCf ["base", "one", "other"] fg fgd) (CM : Fun K "check_mappings" "check_mappings" sCM fc fcd) (mC : mg "check_mappings" = some (.ref fc))
    (AC : Df K mg "all_conflicts" sAC ["base", "one", "other"] fa fad) (GC : FnR pW w K mg base CX0 5 fc spCM) (GA : FnOk pW w K mg base CX0 7 fa fad ["base", "one", "other"] spAC) :
    FnOk pW w K mg base CX0 10 f fd ["_law_base", "_law_one", "_law_other"] spAC := by
  refine F.fn.ok scLi (fun vs H Q E h => ?_) (fun cdv A outer s H vs Q E hr h => ?_)
  · obtain ⟨a, b, c, m1, m2, m3, rfl, _⟩ := h
    rfl
  · obtain ⟨a, b, c, m1, m2, m3, rfl, ha, hb, hc, o1, o2, o3, q⟩ := h
    refine ⟨_, pss_cons (ps_set (i := 3) scLi.nd rfl (Or.inl rfl) (pe_lst pa_nil))
      (pss_cons (ps_forG (i := 3) (j := 4) rfl PassesOwn.never hr scLi.nd rfl (Or.inl rfl) rfl rfl (by decide) (fun hr e0 r hs => ok_cf G CM mC AC GC GA hr e0 r hs) (by rfl) G.m G.fn.kp (pa_cons (pv 0) (pa_cons (pv 1) (pa_cons (pv 2) pa_nil))))
      (pss_one (ps_ret (pv 3)))), ?_⟩
    refine ⟨l0_line, fun F hF => ?_⟩
    have s1 : Same H (upd H F (.lst [])) := same_upd hF
    have w1 := rdS_of s1
    refine ⟨_, rfl, _, rfl, _, rfl, F, [], rfl, upd_same, by decide, a, b, c, m1, m2, m3, rfl, ha.mono w1, hb.mono w1, hc.mono w1, o1, o2, o3, fun H' ks s2 hcf hk => ⟨by rw [List.length_map]; omega, s2 _ _ upd_same, fun y => ⟨_, rfl, ?_⟩⟩⟩
    refine q _ F ks (fun b o e => ?_) hF (by rw [List.nil_append]; exact upd_same) hcf hk
    rw [upd_ne (ne_of_none e hF)]
    exact s2 b o (s1 b o e)
end
end Mw

end

section
set_option Elab.async false
set_option linter.all false
set_option maxRecDepth 100000
set_option maxHeartbeats 8000000
/-! try .. except x as n, where the rest of the block may look at the error. -/
namespace Mw
open PySem PySem.Spec PyProof.Rows L2
def wPin (K : PySem.W.Frag) (c : Value) (i : Nat) (ts tx : Addr → Value → Option Addr → TS) (D : Ends) : WX := fun cls d σ H =>
  PySem.W.exmOne K cls c = some true ∧ ∀ a, H a = none → ts a cls d { nx := fun σ' H' => tx a cls d D (σ'.set i none) H', rt := fun _ _ => False, bk := fun _ _ => False, ct := fun _ _ => False } (σ.set i (some (.ref a))) H
section
variable {X : Cx} {x n : Str} {c : Value} {i : Nat} {body suite rest : List Stmt} {b₀ : Stmt} {np pos pos' : Pos} {tb : WX → TS} {ts tx : Addr → Value → Option Addr → TS} {tn : TS}
theorem sp_less {pn : List (Addr × Obj)} {pins : List (Addr × Obj)} {D : Ends} {f : Flow} {s : Shared} {q : Addr × Obj} (ok : X.Ok) (h : SP (X.tr (q :: (X.pn ++ pins)) X.xe) [] D f s) : SP X pins D f s := by
  have less : ∀ {σ : L2.St} {H : Hp}, L2.Inv (X.tr (q :: (X.pn ++ pins)) X.xe) [] σ H s → L2.Inv X pins σ H s := fun I =>
    ⟨ok, I.os, I.bare, I.base, I.loc, I.cell, I.free, I.freeC, fun p hp => I.pin p (List.mem_append_left _ (List.mem_cons_of_mem _ hp)), I.hok, I.len⟩
  cases f with
  | next => obtain ⟨σ, H, I, r⟩ := h; exact ⟨σ, H, less I, r⟩
  | brk => obtain ⟨σ, H, I, r⟩ := h; exact ⟨σ, H, less I, r⟩
  | cont => obtain ⟨σ, H, I, r⟩ := h; exact ⟨σ, H, less I, r⟩
  | ret u => obtain ⟨v, σ, H, I, r⟩ := h; exact ⟨v, σ, H, less I, r⟩
theorem ps_try_pin (hs : X.stack = X.env :: X.outer) (hf : X.env.frame = some X.env.locals) (hN : X.N.Nodup) (hi : X.N[i]? = some n) (hln : X.env.kindOf n = some .local) (hc : Names X x c)
    (hb : ∀ (W : WX) (pn : List (Addr × Obj)) (xe : Value → Shared → Prop), Takes (X.tr pn xe) W → PassesOwn (model X.prog X.w) X.A X.env xe → PSs (X.tr pn xe) body (tb W))
    (hsu : ∀ (a : Addr) (oe : Obj) (cls : Value) (d : Option Addr) (pn : List (Addr × Obj)), Zc cls d oe → (∃ vs, oe.data = .fields vs) → PSs (X.suite a ((a, oe) :: pn)) (b₀ :: suite) (ts a cls d))
    (hn : PSs X rest tn) (hx : ∀ (a : Addr) (oe : Obj) (cls : Value) (d : Option Addr) (pn : List (Addr × Obj)), Zc cls d oe → (∃ vs, oe.data = .fields vs) → PSs (X.tr ((a, oe) :: pn) X.xe) rest (tx a cls d)) :
    PSs X (.Try body [.ExceptHandler (some (.Name x np)) (some n) (b₀ :: suite) pos'] [] [] pos :: rest) (fun D σ H => tb (wPin X.K c i ts tx D) { D with nx := tn D } σ H) := by
  refine ⟨fun pins s σ H D I h => wpAny_execs_cons ?_⟩
  have ok := I.ok
  have hfr : X.A.frames = some (X.env :: X.outer) := by rw [ok.frames, hs]
  let cont : Flow → Shared → Prop := fun f s1 => match f with
    | .next => wpAny (model X.prog X.w) X.A (execs rest X.env) (SP X pins D) X.xe s1
    | .ret v => SP X pins D (.ret v) s1
    | .brk => SP X pins D .brk s1
    | .cont => SP X pins D .cont s1
  refine thn (Q := cont) ?_ fun f s1 q => by cases f <;> exact q
  refine wpAny_Try_except ?_
  refine wpAny_mono ((hb (wPin X.K c i ts tx D) (X.pn ++ pins) (fun e s₁ => wpAny (model X.prog X.w) X.A (noteFrame e X.env) (fun _ s₂ => wpAny (model X.prog X.w) X.A (setFlight e none) (fun _ s₃ =>
    wpAny (model X.prog X.w) X.A (handleBy e X.env [.ExceptHandler (some (.Name x np)) (some n) (b₀ :: suite) pos']) cont X.xe s₃) X.xe s₂) X.xe s₁) (fun u s' xx => ?_) PassesOwn.looking).run [] s σ H _ (I.toTry _) h) (fun f s1 hsp => ?_) (fun e s1 he => he)
  · obtain ⟨a, B, sI, pins', σ', H', cls, d, rfl, J', nb, up, sky, na, os, ag, hb1, hyes⟩ := xx
    have J : L2.Inv X pins σ' H' sI := J'.ofTry ok
    have sky' : Sky B (X.env :: X.outer) a (Zc cls d) X.env.locals s'.heap := by rw [← hs]; exact sky
    show wpAny _ X.A (noteFrame (.ref a) X.env) _ _ _
    refine Sky.land Zc.steady hfr hf sky' fun h3 fl3 up3 => ?_
    have J3 : L2.Inv X pins σ' H' { s' with heap := h3 } := J.landed nb fl3.1 (up.trans up3) os ag
    obtain ⟨oe3, vs3, he3, hz3, hd3⟩ := fl3.there
    have nfr : a ∉ frs (X.env :: X.outer) := fun hm => by
      obtain ⟨_, o', e', hnf⟩ := fl3.2.2.1.mem hm
      rw [he3] at e'; cases e'
      exact hnf _ hd3
    have nL : a ≠ X.env.locals := fun z => nfr (List.mem_filterMap.mpr ⟨X.env, List.mem_cons_self, by rw [hf, z]⟩)
    have nF : a ∉ X.fs := fun hm => by
      obtain ⟨e, he, q⟩ := List.mem_filterMap.mp hm
      exact nfr (List.mem_filterMap.mpr ⟨e, List.mem_cons_of_mem _ he, q⟩)
    have S3 := J3.suite he3 hd3 na nL nF
    refine wpAny_handleBy_cons (codeAny_handlers_test ?_) (by intro q; cases q)
    have LM := PySem.W.exm_one (M := model X.prog X.w) (J3.kIn) (fun A Q E s k q => wpAny_typeOf_ref (k _ _ he3) (by rw [hz3.1]; exact q)) hb1
    have test : ∀ {Q : Value → Shared → Prop} {E : Value → Shared → Prop}, Q c { s' with heap := h3 } → wpAny (model X.prog X.w) (X.A.mark (some (.ref a))) (eval (.Name x np) X.env) Q E { s' with heap := h3 } := fun {Q E} q => by
      obtain ⟨hg, hdbg, hm | ⟨hm, hv, hnn⟩⟩ := hc
      · exact ld_glob (X := X.suite a ((a, oe3) :: (X.pn ++ pins))) S3 hg hm q hdbg
      · exact ld_blt (X := X.suite a ((a, oe3) :: (X.pn ++ pins))) S3 hg hm hv q hnn hdbg
    refine test (LM.here ?_)
    refine codeAny_handlers_suite_as ?_
    refine HandSPX.lands_againZ fl3 fun h4 fl4 up4 => ?_
    have J4 : L2.Inv X pins σ' H' { s' with heap := h4 } := J.landed nb fl4.1 ((up.trans up3).trans up4) os ag
    obtain ⟨oe4, vs4, he4, hz4, hd4⟩ := fl4.there
    have S4 := J4.suite he4 hd4 na nL nF
    refine store_ok (X := X.suite a ((a, oe4) :: (X.pn ++ pins))) (v := .ref a) S4 hN hi (.inl hln) rfl (fun s5 S5 => ?_) (.inr hln)
    refine wpAny_mono ((hsu a oe4 cls d (X.pn ++ pins) hz4 ⟨_, hd4⟩).run [] s5 _ H' _ S5 (hyes a na)) (fun f s6 hsp => ?_) (fun _ _ z => False.elim z)
    cases f with
    | next =>
      obtain ⟨σ6, H6, S6, q6⟩ := hsp
      have J6 : L2.Inv (X.tr ((a, oe4) :: (X.pn ++ pins)) X.xe) [] σ6 H6 s6 := ⟨ok.toTry _ _, S6.os, S6.bare, S6.base, S6.loc, S6.cell, S6.free, S6.freeC, S6.pin, S6.hok, S6.len⟩
      refine gone_ok (X := X.tr ((a, oe4) :: (X.pn ++ pins)) X.xe) J6 hN hi hln fun s7 J7 => ?_
      exact thn ((hx a oe4 cls d (X.pn ++ pins) hz4 ⟨_, hd4⟩).run [] s7 _ H6 D J7 q6) fun f s8 q => sp_less (pn := []) ok q
    | brk => obtain ⟨_, _, _, q6⟩ := hsp; exact False.elim q6
    | cont => obtain ⟨_, _, _, q6⟩ := hsp; exact False.elim q6
    | ret u => obtain ⟨_, _, _, _, _, q6⟩ := hsp; exact False.elim q6
  · cases f with
    | next =>
      obtain ⟨σ', H', J', q⟩ := hsp
      exact wpAny_execs_nil (hn.run pins s1 σ' H' D (J'.ofTry ok) q)
    | brk => obtain ⟨σ', H', J', q⟩ := hsp; exact ⟨σ', H', J'.ofTry ok, q⟩
    | cont => obtain ⟨σ', H', J', q⟩ := hsp; exact ⟨σ', H', J'.ofTry ok, q⟩
    | ret u => obtain ⟨v, σ', H', J', r, q⟩ := hsp; exact ⟨v, σ', H', J'.ofTry ok, r, q⟩
end
end Mw

end

section
set_option Elab.async false
set_option linter.all false
set_option maxRecDepth 100000
set_option maxHeartbeats 8000000
/-! _law_told. -/
namespace Mw
open PySem PySem.Spec PyProof.Rows L2
def tGiven (C : Addr) (a : Addr) (cls : Value) (d : Option Addr) (te : TE) : TE := fun σ H Q => te σ H fun x H1 => x = .ref a ∧ cls = .ref C ∧ ∃ (dd : Addr) (v : V), d = some dd ∧ H1 dd = some (gv v) ∧ Q v H1
theorem pe_given {X : Cx} {C fI : Addr} {a : Addr} {oe : Obj} {cls : Value} {d : Option Addr} {pn : List (Addr × Obj)} {xe : Value → Shared → Prop} {e : Expr} {te : TE} {pos : Pos} (T : CfTxt X.K X.mg C fI) (hz : Zc cls d oe) (hf : ∃ vs, oe.data = .fields vs) (he : PE (X.tr ((a, oe) :: pn) xe) e te)
    (hb : attributeBase e "given" X.env (eval e X.env) = eval e X.env := by rfl) :
    PE (X.tr ((a, oe) :: pn) xe) (.Attribute e "given" pos) (tGiven C a cls d te) := by
  refine ⟨fun pins s σ H Q I h => ?_⟩
  refine attr_of hb (thn (he.run pins s σ H _ I h) fun u s1 ⟨x, H1, I1, rx, ex, ec, dd, v, ed, ea, q⟩ => ?_)
  subst ex
  cases (show u = .ref a from rx)
  subst ec
  subst ed
  obtain ⟨ha, _⟩ := I1.pin (a, oe) (List.mem_append_left _ List.mem_cons_self)
  obtain ⟨vs, hd⟩ := hf
  obtain ⟨mA, hns, hr⟩ := (show ObjOk X.prog X.w H1 s1.heap dd (.xd [(("given" : Str), v)]) from I1.hok dd _ ea)
  obtain ⟨od, ho, hl⟩ := lookIn_ns hns
  have l : List.lookup ("given" : Str) [(("given" : Str), v)] = some v := by simp [List.lookup]
  obtain ⟨u, hu, ru⟩ := RelO.some_of (v := v) (o := mA "given") (by rw [← l]; exact hr "given")
  have J : PySem.W.InstAt s1.heap a oe C (some od) := ⟨ha, hz.1, by unfold PySem.W.notCls; rw [hd] <;> rfl, by rw [hz.2]; exact ho⟩
  exact HandSPX.exc_get I1.kIn J T.ga T.gg T.exC (PySem.W.findObj_own T.hdC T.noN rfl (by rw [hl, hu])) (handed_of ru) ⟨v, H1, I1.tok _, ru, q⟩
def tNo : TE := fun _ _ _ => False
theorem pe_no {X : Cx} {e : Expr} : PE X e tNo := ⟨fun _ _ _ _ _ _ h => False.elim h⟩
abbrev sTo : Stmt := top 44
theorem scTo : FnScope ["_law_base", "_law_one", "_law_other", "_law_caught", "_law_found", "error", "_law_key"] ["_law_base", "_law_one", "_law_other"] (defScope sTo) := ⟨rfl, rfl, rfl, by decide +kernel, rfl, by decide +kernel, by decide +kernel⟩
def spTo : Sp := fun vs H Q _ => ∃ (a b c : Addr) (m1 m2 m3 : Mp), vs = [.ref a, .ref b, .ref c] ∧ MapAt H a m1 ∧ MapAt H b m2 ∧ MapAt H c m3 ∧ OkM 12 m1 ∧ OkM 12 m2 ∧ OkM 12 m3 ∧
  (∀ H' r, Same H H' → IsCf m1 m2 m3 [] → PairsAt H' r (mrg m1 m2 m3) → Q (.ref r) H') ∧
  (∀ H' p ks, Same H H' → IsCf m1 m2 m3 ks → ks ≠ [] → ks.length ≤ 40 → H' p = some (.tup (ks.map V.str)) → Q (.ref p) H')
section
variable {w : World} {K : PySem.W.Frag} {mg : Str → Option Value} {base : Heap} {f fm C fI : Addr} {fd fmd : FuncData}
theorem ok_to (F : Df K mg "_law_told" sTo ["_law_base", "_law_one", "_law_other"] f fd) (T : CfTxt K mg C fI) (M : Df K mg "merged" sMg ["base", "one", "other"] fm fmd) (GM : FnOk pW w K mg base (L2.CX pW w) 8 fm fmd ["base", "one", "other"] (spMg C)) :
    FnOk pW w K mg base CX0 9 f fd ["_law_base", "_law_one", "_law_other"] spTo := by
  refine F.fn.ok scTo (fun vs H Q E h => ?_) (fun cdv A outer s H vs Q E hr h => ?_)
  · obtain ⟨a, b, c, m1, m2, m3, rfl, _⟩ := h
    rfl
  · obtain ⟨a, b, c, m1, m2, m3, rfl, ha, hb, hc, o1, o2, o3, q1, q2⟩ := h
    have hu := hu_of hr
    refine ⟨_, pss_cons (ps_asg (pe_tup (pa_cons pe_non (pa_cons pe_dnewK pa_nil))) (pg_tup rfl (pgs_cons (pg_name (i := 3) scTo.nd rfl (Or.inl rfl)) (pgs_cons (pg_name (i := 4) scTo.nd rfl (Or.inr rfl)) pgs_nil))))
      (ps_try_pin (i := 5) (tb := fun W => tAsg (tCallS (spMg C) (WE W) (tCons (tVar 0) (tCons (tVar 1) (tCons (tVar 2) tNil)))) (gName 4)) (ts := fun _ _ _ => tAsg (tVar 5) (gName 3)) (tx := fun a cls d => tRet (tIf (tTest (tOp rIsN (tVar 3) (tC .non))) tNo (tGiven C a cls d (tVar 3)))) rfl rfl scTo.nd rfl rfl ⟨rfl, by decide, Or.inl T.gC⟩
        (fun W pn xe tk _ => pss_one (ps_set (i := 4) scTo.nd rfl (Or.inr rfl) (by exact (pe_callS GM hr rfl M.m M.fn.kp M.b (fun σ => passAt tk σ) (by exact (pa_cons (pv 0) (pa_cons (pv 1) (pa_cons (pv 2) pa_nil))))))))
        (fun a oe cls d pn hz hf => pss_one (ps_set (i := 3) scTo.nd rfl (Or.inl rfl) (by exact (pv 5))))
        (pss_one (ps_ret (pe_ifExp (pt_cmpR op_isN1 (pv 3) pe_non (nomark _)) (pe_lockR (pe_lc (own := [("_law_key", 6)]) (g := gName 6) (tt := tYes) rfl scTo.nd (pi_keys (pv 4)) (blkOk_by (N := ["_law_base", "_law_one", "_law_other", "_law_caught", "_law_found", "error", "_law_key"]) (sc := defScope sTo) (by decide +kernel))
          (fun _ _ _ _ _ => pg_name (i := 6) scTo.nd rfl (Or.inl rfl)) (fun _ _ _ _ _ => pts_nil) (fun _ _ _ _ _ => pe_lst (pa_cons (pv 6) (pa_cons (pe_dget hu (pv 4) (pv 6) (fun _ _ => rfl)) pa_nil))))) pe_no)))
        (fun a oe cls d pn hz hf => pss_one (ps_ret (by exact (pe_ifExp (pt_cmpR op_isN1 (pv 3) pe_non (nomark _)) pe_no (pe_given T hz hf (pv 3))))))), ?_⟩
    refine fun e he => ⟨l2_line, fun t ht => ?_⟩
    have s1 : Same H (upd H e (.dK [])) := same_upd he
    have s2 := s1.trans (same_upd (o := .tup [.non, .ref e]) ht)
    refine ⟨t, _, rfl, SqT.of upd_same, rfl, _, _, rfl, _, _, rfl, rfl, ?_⟩
    have w2 := rdS_of s2
    generalize upd (upd H e (.dK [])) t (.tup [.non, .ref e]) = H2 at s2 w2 ⊢
    refine ⟨_, rfl, _, rfl, _, rfl, a, b, c, m1, m2, m3, rfl, ha.mono w2, hb.mono w2, hc.mono w2, o1, o2, o3, fun H3 r s3 hcf hm => ?_, fun H3 d tp ks s3 hd0 hcf hne hl hd htp => ⟨T.te, fun a0 ha0 => ?_⟩⟩
    · refine ⟨_, rfl, rfl, _, rfl, iteT ?_⟩
      obtain ⟨ks, hr0, hv⟩ := hm.mono (rdS_of fr_sub)
      have okm := (o1.mrg o2 o3)
      have hml := okm.len
      have hlen : ks.length = (mrg m1 m2 m3).length := Paired.length hv
      have nd := hv.nodup okm.nd
      refine ⟨r, ks, hr0, fun od H4 h4 rs off => ?_⟩
      refine ⟨_, rfl, r, od, rfl, .inl ⟨ks, h4, fun D hD => lc_gen gen_keys hD (fun H s' => s' _ _ h4)
        (fun i G y => ∃ t, y = V.ref t ∧ ∀ x, (mrg m1 m2 m3)[i]? = some x → PairI H3 G t x) (fun _ => true) (fun i G G' y s' ⟨t, e, h⟩ => ⟨t, e, fun x hx => (h x hx).mono s'⟩) (by omega) ?_ ?_⟩⟩
      · rintro i x H5 acc Nx hi ⟨k, u, e1, rfl⟩ s5 hacc _ nx
        refine ⟨rfl, ifT (B := Nx H5) rfl ?_⟩
        obtain ⟨j, y, e2, rfl, hu'⟩ := hv.get e1
        have hd5 : Rd H5 r (.dK ks) := .inr ⟨od, s5 _ _ h4⟩
        refine ⟨_, rfl, _, rfl, _, rfl, r, u, rfl, .inl ⟨ks, .inr j, hd5, rfl, (valV_get nd e1).symm⟩, l2_line, fun t ht => ?_⟩
        refine nx (.ref t) _ (same_upd ht) rfl ⟨t, rfl, fun x hx => ?_⟩
        rw [e2] at hx; cases hx
        exact ⟨u, by rw [hid_ne (ne_of_none hacc ht).symm, upd_same]; rfl, hu'⟩
      intro H5 acc s5 hD5 out
      refine ⟨s5 _ _ h4, fun H6 sb rs6 off6 => ?_⟩
      have hDr : D ≠ r := fun z => by rw [z, h4] at hD; cases hD
      have hD6 : H6 D = some (.lst acc) := by rw [off6 D hDr]; exact hD5
      have s36 := sb s5
      obtain ⟨hal, hall⟩ := out_all out
      have pr : Paired (fun y x => ∃ t, y = V.ref t ∧ PairI H3 (hid D H5) t x) acc (mrg m1 m2 m3) := paired_ix2 (by omega) fun i y x h1 h2 => by
        obtain ⟨t, e, h⟩ := hall i y h1
        exact ⟨t, e, h x h2⟩
      obtain ⟨ts0, rfl, hts0⟩ := refs_paired pr
      exact q1 H6 D ((s2.trans s3).trans s36) hcf ⟨ts0, hD6, Paired.mapP hts0 fun t x h => ((h.mono (rdS_of hid_sub)).mono rs6).pair s36⟩
    · refine ⟨_, rfl, _, rfl, rfl, _, rfl, iteF ⟨_, rfl, rfl, rfl, d, _, rfl, hd, ?_⟩⟩
      exact q2 H3 tp ks (s2.trans s3) hcf hne hl htp
end
end Mw

end

section
set_option Elab.async false
set_option linter.all false
set_option maxRecDepth 100000
set_option maxHeartbeats 4000000
/-! Data of the law's own: pairs, keys, three maps; dict(pairs). -/
namespace Mw
open PySem PySem.Spec PyProof.Rows L2
def pairD (q : Str × PyData) : PyData := .list [.str q.1, q.2]
def pairsD (m : Mp) : PyData := .list (m.map pairD)
theorem gd_strK {n : Nat} {k : Str} (h : okK k) : gd n (.str k) := by
  cases n <;> exact ⟨h.1, h.2.2⟩
theorem gd_up1 {x : PyData} (h : gd 1 x) : gd 1 x := h
theorem pairsD_gd {n : Nat} {m : Mp} (o : OkM n m) (hn : n ≤ 40) : gd 3 (pairsD m) := by
  refine ⟨by rw [List.length_map]; exact Nat.le_trans o.len hn, fun x hx => ?_⟩
  obtain ⟨q, hq, rfl⟩ := List.mem_map.mp hx
  refine ⟨by show 2 ≤ 40; decide, fun y hy => ?_⟩
  rcases List.mem_cons.mp hy with rfl | hy
  · exact gd_strK (o.key q hq)
  · rw [List.mem_singleton.mp hy]
    exact o.val q hq
theorem PairAt.isD {H : Hp} {t : Addr} {q : Str × PyData} (h : PairAt H t q) : IsD H 2 (.ref t) (pairD q) := by
  obtain ⟨v, h1, h2⟩ := h
  exact .inr (.inl ⟨t, _, _, rfl, rfl, h1, .cons (IsD.flat rfl) (.cons h2 .nil)⟩)
theorem pairsAt_isD {H : Hp} {p : Addr} {m : Mp} (h : PairsAt H p m) : IsD H 3 (.ref p) (pairsD m) := by
  obtain ⟨ts, h1, h2⟩ := h
  refine .inr (.inl ⟨p, _, _, rfl, rfl, h1, ?_⟩)
  clear h1
  induction h2 with
  | nil => exact .nil
  | cons q _ ih => exact .cons q.isD ih
def keysD (ks : List Str) : PyData := .tuple (ks.map PyData.str)
theorem keysD_gd {ks : List Str} (h : ∀ k ∈ ks, okK k) (hl : ks.length ≤ 40) : gd 1 (keysD ks) := by
  refine ⟨by rw [List.length_map]; exact hl, fun x hx => ?_⟩
  obtain ⟨k, hk, rfl⟩ := List.mem_map.mp hx
  exact gd_strK (h k hk)
theorem keysD_isD {H : Hp} {p : Addr} {ks : List Str} (h : H p = some (.tup (ks.map V.str))) : IsD H 1 (.ref p) (keysD ks) := by
  refine .inr (.inr (.inl ⟨p, _, _, rfl, rfl, h, ?_⟩))
  clear h
  induction ks with
  | nil => exact .nil
  | cons k r ih => exact .cons (IsD.flat rfl) ih
def mapsD (m1 m2 m3 : Mp) : PyData := .list [mapD m1, mapD m2, mapD m3]
theorem mapsD_gd {m1 m2 m3 : Mp} {n : Nat} (hn : n ≤ 40) (o1 : OkM n m1) (o2 : OkM n m2) (o3 : OkM n m3) : gd 3 (mapsD m1 m2 m3) := by
  refine ⟨by show 3 ≤ 40; decide, fun x hx => ?_⟩
  rcases List.mem_cons.mp hx with rfl | hx
  · exact mapD_gd o1 hn
  rcases List.mem_cons.mp hx with rfl | hx
  · exact mapD_gd o2 hn
  rw [List.mem_singleton.mp hx]
  exact mapD_gd o3 hn
theorem mapsD_isD {H : Hp} {l a b c : Addr} {m1 m2 m3 : Mp} (h : H l = some (.lst [.ref a, .ref b, .ref c])) (ha : MapAt H a m1) (hb : MapAt H b m2) (hc : MapAt H c m3) : IsD H 3 (.ref l) (mapsD m1 m2 m3) :=
  .inr (.inl ⟨l, _, _, rfl, rfl, h, .cons ha.isD (.cons hb.isD (.cons hc.isD .nil))⟩)
/-- dict(pairs), the keys apart -/
theorem kvd_merge {H : Hp} {n : Nat} : ∀ {ks : List (Key × V)} {m : Mp} {acc : List (Key × V)} {m0 : Mp}, KvD H n ks m → KvD H n acc m0 → (keys (m0 ++ m)).Nodup → KvD H n (mergeK acc ks) (m0 ++ m) := by
  intro ks m acc m0 h
  induction h generalizing acc m0 with
  | nil =>
    intro h0 _
    rw [List.append_nil]
    exact h0
  | cons q t ih =>
    rename_i p x ks m
    intro h0 nd
    obtain ⟨e, hv⟩ := q
    have hno : x.1 ∉ keys m0 := fun hm => by
      unfold keys at nd
      rw [List.map_append, List.map_cons] at nd
      exact (List.nodup_append.mp nd).2.2 x.1 hm x.1 List.mem_cons_self rfl
    have h1 := h0.put (k := x.1) hv
    rw [putM_no hno] at h1
    have h2 : KvD H n (putK acc p.1 p.2) (m0 ++ [(x.1, x.2)]) := by rw [e]; exact h1
    have h3 := ih (acc := putK acc p.1 p.2) (m0 := m0 ++ [(x.1, x.2)]) h2 (by rw [List.append_assoc]; exact nd)
    rw [List.append_assoc] at h3
    exact h3
theorem kvd_dict {H : Hp} {n : Nat} {ks : List (Key × V)} {m : Mp} (h : KvD H n ks m) (nd : (keys m).Nodup) : KvD H n (mergeK [] ks) m := kvd_merge (m0 := []) h .nil nd
end Mw

end

section
set_option Elab.async false
set_option linter.all false
set_option maxRecDepth 100000
set_option maxHeartbeats 16000000
/-! _law_right: the walk. -/
namespace Mw
open PySem PySem.Spec PyProof.Rows L2
theorem eqv_keys (ks ls : List Str) : PyData.eqv (.list (ks.map PyData.str)) (.list (ls.map PyData.str)) = decide (ks = ls) := by
  simp only [PyData.eqv]
  exact eqv_strs ks ls
theorem pairsAt_mono {H H' : Hp} (s : Same H H') {p : Addr} {m : Mp} (h : PairsAt H p m) : PairsAt H' p m := by
  obtain ⟨ts, h1, h2⟩ := h
  exact ⟨ts, s _ _ h1, Paired.mapP h2 fun _ _ r => r.mono (rdS_of s)⟩
theorem no_cf {x y z : Mp} {ks : List Str} (h : ∀ k, cf x y z k = false) (hc : IsCf x y z ks) : ks = [] := by
  cases ks with
  | nil => rfl
  | cons k r =>
    have := (hc.mem k).mp List.mem_cons_self
    rw [h] at this
    cases this
theorem kp_none (n : Nat) : kp (fun _ => false) n = [] := by
  unfold kp
  exact filter_none fun _ _ => rfl
/-- the pair (key, value) at t, its value of H -/
def TupI (H G : Hp) (t : Addr) (q : Str × PyData) : Prop := ∃ v, G t = some (.tup [.str q.1, v]) ∧ IsD H 1 v q.2
theorem TupI.mono {H G G' : Hp} (s : RdS G G') {t : Addr} {q : Str × PyData} (h : TupI H G t q) : TupI H G' t q := by
  obtain ⟨v, h1, h2⟩ := h
  exact ⟨v, s.tup _ _ h1, h2⟩
theorem tups_kv {H G : Hp} : ∀ {ts : List Addr} {m : Mp}, Paired (TupI H G) ts m → ∃ kvs : List (Key × V), Paired (fun t kv => G t = some (.tup [kV kv.1, kv.2])) ts kvs ∧ KvD H 1 kvs m := by
  intro ts m h
  induction h with
  | nil => exact ⟨[], .nil, .nil⟩
  | cons q _ ih =>
    obtain ⟨kvs, a, b⟩ := ih
    obtain ⟨v, h1, h2⟩ := q
    exact ⟨(.inr _, v) :: kvs, .cons h1 a, .cons ⟨rfl, h2⟩ b⟩
abbrev sRi : Stmt := top 46
abbrev nRi : List Str := ["_law_base", "_law_one", "_law_other", "_law_due", "_law_kept", "_law_told_here", "_law_wanted", "_law_near", "_law_key", "_law_unlike", "_law_pair", "_law_some", "_law_mapping_here"]
theorem scRi : FnScope nRi ["_law_base", "_law_one", "_law_other"] (defScope sRi) := ⟨rfl, rfl, rfl, by decide +kernel, rfl, by decide +kernel, by decide +kernel⟩
def spRi : Sp := fun vs H Q _ => ∃ (a b c : Addr) (m1 m2 m3 : Mp), vs = [.ref a, .ref b, .ref c] ∧ MapAt H a m1 ∧ MapAt H b m2 ∧ MapAt H c m3 ∧ OkM 12 m1 ∧ OkM 12 m2 ∧ OkM 12 m3 ∧ ∀ H', Same H H' → Q (.bl true) H'
section
variable {w : World} {K : PySem.W.Frag} {mg : Str → Option Value} {base : Heap} {f fa fc fm ft fl fq fn fs C fI : Addr} {fd fad fcd fmd ftd fld fqd fnd fsd : FuncData}
def tlRi : List Stmt := (defBody sRi).drop 5
theorem ri_tail (F : Df K mg "_law_right" sRi ["_law_base", "_law_one", "_law_other"] f fd) (B : Bi mg) (T : CfTxt K mg C fI) (A' : Df K mg "_law_at" sAt ["_law_mapping_here", "_law_key"] fa fad) (C' : Df K mg "_law_conflicts" sLC ["_law_base", "_law_one", "_law_other"] fc fcd)
    (M' : Df K mg "_law_merged" sLM ["_law_base", "_law_one", "_law_other"] fm fmd) (T' : Df K mg "_law_told" sTo ["_law_base", "_law_one", "_law_other"] ft ftd) (L' : Df K mg "_law_listed" sLi ["_law_base", "_law_one", "_law_other"] fl fld)
    (N' : Df K mg "merged" sMg ["base", "one", "other"] fn fnd) (S' : Df K mg "are_same" sAS ["one", "other"] fs fsd)
    (GA : FnG pW w K mg base CX0 1 fa fad ["_law_mapping_here", "_law_key"] spAt) (GC : FnG pW w K mg base CX0 2 fc fcd ["_law_base", "_law_one", "_law_other"] spAC) (GM : FnG pW w K mg base CX0 2 fm fmd ["_law_base", "_law_one", "_law_other"] spLM)
    (GT : FnOk pW w K mg base CX0 9 ft ftd ["_law_base", "_law_one", "_law_other"] spTo) (GL : FnOk pW w K mg base CX0 10 fl fld ["_law_base", "_law_one", "_law_other"] spAC) (GN : FnOk pW w K mg base (L2.CX pW w) 8 fn fnd ["base", "one", "other"] (spMg C))
    (GS : FnOk pW w K mg base CX0 6 fs fsd ["one", "other"] spAS)
    {cdv : Value} {A : Around} {outer : List Env} {s : Shared} {H0 : Hp} {E : XK} (hG : A.guards = some []) (hr : Room 10 (A.deeper (envOfC "_law_right" (defScope sRi) s.heap.objs.size f cdv))) :
    ∃ t, PSs (cxOf CX0 pW w K mg base nRi "_law_right" (defScope sRi) f cdv A outer s H0 E).nox tlRi t ∧ ∀ (D : Ends) (H : Hp) (a b c p1 pt : Addr) (m1 m2 m3 : Mp) (ks : List Str) (x4 x6 x7 x8 x9 x10 x11 x12 : Option V), MapAt H a m1 → MapAt H b m2 → MapAt H c m3 → OkM 12 m1 → OkM 12 m2 → OkM 12 m3 →
      H p1 = some (.lst (ks.map V.str)) → (∀ k ∈ ks, okS k) → IsCf m1 m2 m3 ks → (ks = [] → PairsAt H pt (mrg m1 m2 m3)) → (∀ H', Same H H' → D.rt (.bl true) H') →
      t D [some (.ref a), some (.ref b), some (.ref c), some (.ref p1), x4, some (.ref pt), x6, x7, x8, x9, x10, x11, x12] H := by
  have hu := hu_of hr
  have hr1 := hr.mono (by decide : 1 ≤ 10)
  have hr6 := hr.mono (by decide : 6 ≤ 10)
  have hr8 := hr.mono (by decide : 8 ≤ 10)
  refine ⟨_, pss_cons (ps_if (PW.pt (pw_or (pt_not (pt_val (pe_call GS hr6 rfl S'.m S'.fn.kp S'.b .nil pass0 (pa_cons (pe_callS GN hr8 rfl N'.m N'.fn.kp N'.b (fun σ => passAt takes0 σ) (pa_cons (pv 0) (pa_cons (pv 1) (pa_cons (pv 0) pa_nil)))) (pa_cons (pv 1) pa_nil)))))
          (pw_or1 (pt_not (pt_val (pe_call GS hr6 rfl S'.m S'.fn.kp S'.b .nil pass0 (pa_cons (pe_callS GN hr8 rfl N'.m N'.fn.kp N'.b (fun σ => passAt takes0 σ) (pa_cons (pv 0) (pa_cons (pv 1) (pa_cons (pv 1) pa_nil)))) (pa_cons (pv 1) pa_nil)))))))) (pss_one (ps_ret pe_bl)) pss_nil)
      (pss_cons (ps_set (i := 7) scRi.nd rfl (Or.inr rfl) (pe_callS GN hr8 rfl N'.m N'.fn.kp N'.b (fun σ => passAt takes0 σ) (pa_cons (pv 0) (pa_cons (pv 0) (pa_cons (pv 2) pa_nil)))))
      (pss_cons (ps_lockS2 (ps_setLc (i := 9) (own := [("_law_key", 8)]) (g := gName 8) rfl scRi.nd rfl rfl (sw_true rfl rfl rfl (by decide +kernel)) (pi_keys (pv 2)) (blkOk_by (N := nRi) (sc := defScope sRi) (by decide +kernel))
          (fun _ _ _ _ _ => pg_name (i := 8) scRi.nd rfl (Or.inl rfl)) (fun _ _ _ _ _ => pts_one (pt_cmpR op_ne (pe_callG GA hG hr1 rfl A'.m A'.fn.kp A'.b .nil pass0 (pa_cons (pv 7) (pa_cons (pv 8) pa_nil))) (pe_callG GA hG hr1 rfl A'.m A'.fn.kp A'.b .nil pass0 (pa_cons (pv 2) (pa_cons (pv 8) pa_nil))) (nomark _))) (fun _ _ _ _ _ => pv 8)))
      (pss_cons (ps_if (PW.pt (pw_or (pt_cmpR (op_neD hr.units) (pe_callB (call_sortedD rfl) (by rfl) B.sorted (by decide +kernel) (pa_cons (pv 7) pa_nil)) (pe_callB (call_sortedD rfl) (by rfl) B.sorted (by decide +kernel) (pa_cons (pv 2) pa_nil)) (nomark _))
          (pw_or1 (pt_cmpR (op_neD hr.units) (pv 9) (pe_lst pa_nil) (nomark _))))) (pss_one (ps_ret pe_bl)) pss_nil)
      (pss_cons (ps_if (pt_cmpR (op_neD hr.units) (pv 3) (pe_lst pa_nil) (nomark _)) (pss_one (ps_ret pe_bl)) pss_nil)
      (pss_cons (ps_set (i := 7) scRi.nd rfl (Or.inr rfl) (pe_callTy (call_dictP rfl) (by rfl) B.dict (by decide +kernel) (pa_cons (pe_lc (own := [("_law_pair", 10)]) (g := gName 10) (tt := tYes) rfl scRi.nd (pi_list (pv 5)) (blkOk_by (N := nRi) (sc := defScope sRi) (by decide +kernel))
          (fun _ _ _ _ _ => pg_name (i := 10) scRi.nd rfl (Or.inl rfl)) (fun _ _ _ _ _ => pts_nil) (fun _ _ _ _ _ => pe_tup (pa_cons (pe_ix (ix_listK (K := K) rfl) (pv 10) pe_int (fun _ _ => rfl)) (pa_cons (pe_ix (ix_listK (K := K) rfl) (pv 10) pe_int (fun _ _ => rfl)) pa_nil)))) pa_nil)))
      (pss_cons (ps_for PassesOwn.never rfl (pi_list (pe_sortSet rfl (by rfl) B.sorted (by rfl) B.set
          (pe_op op_cat (pe_op op_cat (pe_callTy (call_listRd rfl) (by rfl) B.list (by decide +kernel) (pa_cons (pv 0) pa_nil)) (pe_callTy (call_listRd rfl) (by rfl) B.list (by decide +kernel) (pa_cons (pv 1) pa_nil)))
            (pe_callTy (call_listRd rfl) (by rfl) B.list (by decide +kernel) (pa_cons (pv 2) pa_nil))))) (pg_name (i := 8) scRi.nd rfl (Or.inr rfl))
        (pss_cons (ps_setLc (i := 11) (own := [("_law_mapping_here", 12)]) (g := gName 12) rfl scRi.nd rfl rfl (sw_true rfl rfl rfl (by decide +kernel)) (pi_tup (pe_tup (pa_cons (pv 1) (pa_cons (pv 2) pa_nil)))) (blkOk_by (N := nRi) (sc := defScope sRi) (by decide +kernel))
          (fun _ _ _ _ _ => pg_name (i := 12) scRi.nd rfl (Or.inl rfl)) (fun _ _ _ _ _ => pts_one (pt_cmpR op_ne (pe_callG GA hG hr1 rfl A'.m A'.fn.kp A'.b .nil pass0 (pa_cons (pv 12) (pa_cons (pv 8) pa_nil))) (pe_callG GA hG hr1 rfl A'.m A'.fn.kp A'.b .nil pass0 (pa_cons (pv 0) (pa_cons (pv 8) pa_nil))) (nomark _)))
          (fun _ _ _ _ _ => pe_callG GA hG hr1 rfl A'.m A'.fn.kp A'.b .nil pass0 (pa_cons (pv 12) (pa_cons (pv 8) pa_nil))))
        (pss_one (ps_if (pt_cmpR op_ne (pe_callG GA hG hr1 rfl A'.m A'.fn.kp A'.b .nil pass0 (pa_cons (pv 7) (pa_cons (pv 8) pa_nil)))
            (pe_ix ix_list (pe_op op_cat (pv 11) (pe_lst (pa_cons (pe_callG GA hG hr1 rfl A'.m A'.fn.kp A'.b .nil pass0 (pa_cons (pv 0) (pa_cons (pv 8) pa_nil))) pa_nil))) pe_int (fun _ _ => rfl)) (nomark _)) (pss_one (ps_ret pe_bl)) pss_nil))))
      (pss_one (ps_ret pe_bl)))))))), ?_⟩
  intro D H a b c p1 pt m1 m2 m3 ks x4 x6 x7 x8 x9 x10 x11 x12 ha hb hc o1 o2 o3 h1 hokS cf1 hpt q
  have w0 := rdS_of (H := H) (H' := H) fun _ _ z => z
  -- nothing lost
  refine ⟨_, rfl, _, rfl, _, rfl, a, b, a, m1, m2, m1, rfl, ha, hb, ha, o1, o2, o1, fun H1 r1 s1 _ hm1 => ?_, fun H1 d tp ks' _ _ hcf hne _ _ _ => hne (no_cf (fun k => by unfold cf; rw [ch_self, Bool.false_and, Bool.and_false]) hcf)⟩
  rw [mrg_base] at hm1
  refine ⟨_, rfl, r1, b, m2, m2, rfl, hm1.mono (rdS_of fr_sub), hb.mono (rdS_of s1), o2.mono (by decide), o2.mono (by decide), fun H2 s2 => ⟨_, rfl, ?_⟩⟩
  rw [eqD_self]
  refine iteF ?_
  have s02 := s1.trans s2
  have w2 := rdS_of s02
  refine ⟨_, rfl, _, rfl, _, rfl, a, b, b, m1, m2, m2, rfl, ha.mono w2, hb.mono w2, hb.mono w2, o1, o2, o2, fun H3 r3 s3 _ hm3 => ?_, fun H3 d tp ks' _ _ hcf hne _ _ _ => hne (no_cf (fun k => by unfold cf; rw [eqD_self]; simp) hcf)⟩
  rw [mrg_self] at hm3
  refine ⟨_, rfl, r3, b, m2, m2, rfl, hm3.mono (rdS_of fr_sub), hb.mono (rdS_of (s02.trans s3)), o2.mono (by decide), o2.mono (by decide), fun H4 s4 => ⟨_, rfl, ?_⟩⟩
  rw [eqD_self]
  refine iteF ?_
  have s04 := (s02.trans s3).trans s4
  have w4 := rdS_of s04
  clear hm1 hm3 s1 s2 s3 s4 w2 s02 w0
  -- near
  refine ⟨_, rfl, _, rfl, _, rfl, a, a, c, m1, m1, m3, rfl, ha.mono w4, ha.mono w4, hc.mono w4, o1, o1, o3, fun H5 r5 s5 _ hm5 => ?_, fun H5 d tp ks' _ _ hcf hne _ _ _ => hne (no_cf (fun k => by unfold cf; rw [ch_self, Bool.false_and]) hcf)⟩
  have s05 := s04.trans s5
  have on := o1.mrg o1 o3
  have hn5 : MapAt H5 r5 (mrg m1 m1 m3) := hm5.mono (rdS_of fr_sub)
  have hk : ∀ k, k ∈ keys (mrg m1 m1 m3) ↔ k ∈ keys m3 := near_keys o3.nd
  have hlk : ∀ k, lk (mrg m1 m1 m3) k = lk m3 k := lk_near o3.nd
  generalize mrg m1 m1 m3 = mn at hm5 on hn5 hk hlk
  obtain ⟨k3, hr3, hv3⟩ := hc
  have e3 : k3.length = m3.length := Paired.length hv3
  have l3 := o3.len
  have hr35 : Rd H5 c (.dK k3) := (rdS_of s05).rd c _ rfl hr3
  refine ⟨c, k3, hr35, fun od H6 h6 rs6 off6 => ?_⟩
  refine ⟨_, rfl, c, od, rfl, .inl ⟨k3, h6, fun D hD => lc_gen gen_keys hD (fun H s' => s' _ _ h6) (fun _ _ _ => True) (fun _ => false) (fun _ _ _ _ _ _ => trivial) (by omega) ?_ ?_⟩⟩
  · rintro i x H7 acc Nx hi ⟨k, v, ek, rfl⟩ s7 hacc nx0 nx1
    obtain ⟨j, y, e2, rfl, hy⟩ := hv3.get ek
    refine ⟨rfl, ?_⟩
    have w7 := rs6.trans (rdS_of s7)
    refine ⟨_, rfl, _, rfl, r5, mn, j, _, rfl, hn5.mono w7, on, _, rfl, _, rfl, c, m3, j, 12, rfl, (mapAt_ks hr35 (hv3.mono (rdS_of s05))).mono w7, o3, rfl, _, rfl, ?_⟩
    rw [atS_ch o3 on]
    refine ifF ?_ (nx0 H7 (fun _ _ z => z) rfl)
    unfold ch
    rw [hlk, eqD_self]
    rfl
  intro H7 acc s7 hD7 out
  refine ⟨s7 _ _ h6, fun H8 ea rs8 off8 => ?_⟩
  have s58 := lock_same off6 s7 ea off8
  have hDc : D ≠ c := fun z => by rw [z, h6] at hD; cases hD
  have hD8 : H8 D = some (.lst acc) := by rw [off8 D hDc]; exact hD7
  have eacc : acc = [] := by
    have := Paired.length out
    rw [kp_none] at this
    exact List.length_eq_zero_iff.mp this.symm
  subst eacc
  have s08 := s05.trans s58
  clear out s7 rs6 off6 off8 rs8 ea h6 hD hD7 hDc
  -- the keys
  obtain ⟨kn, hrn, hvn⟩ := hn5.mono (rdS_of s58)
  have ln := on.len
  have lkn : (keys mn).length = List.length mn := List.length_map _
  have lk3 : (keys m3).length = List.length m3 := List.length_map _
  have okn : ∀ k ∈ keys m3, okS k := fun k hk => by
    obtain ⟨p, hp, e⟩ := List.mem_map.mp hk
    exact e ▸ (o3.key p hp).1
  refine ⟨_, rfl, r5, kn, keys mn, rfl, hrn, hvn.keys, by omega, fun ys p pm srt hp => ?_⟩
  have s9 : Same H8 (upd H8 p (.lst (ys.map V.str))) := same_upd hp
  have hp9 := upd_same (H := H8) (a := p) (o := .lst (ys.map V.str))
  generalize upd H8 p (.lst (ys.map V.str)) = H9 at s9 hp9 ⊢
  have w9 := rdS_of (s08.trans s9)
  refine ⟨_, rfl, c, k3, keys m3, rfl, w9.rd c _ rfl hr3, hv3.keys, by omega, fun zs p2 pm2 srt2 hp2 => ?_⟩
  have s10 : Same H9 (upd H9 p2 (.lst (zs.map V.str))) := same_upd hp2
  have hp210 := upd_same (H := H9) (a := p2) (o := .lst (zs.map V.str))
  generalize upd H9 p2 (.lst (zs.map V.str)) = H10 at s10 hp210 ⊢
  have eyz : ys = zs := sorted_uniq srt srt2 (pm.symm.nodup on.nd) (pm2.symm.nodup o3.nd) fun k => by rw [pm.mem_iff, pm2.mem_iff, hk]
  subst eyz
  have hys : ∀ k ∈ ys, okS k := fun k hk' => okn k (pm2.mem_iff.mp hk')
  refine ⟨_, _, dp_strs (SqL.of (s10 _ _ hp9)), dp_strs (SqL.of hp210), shaped_strs ys hys, shaped_strs ys hys, _, rfl, ?_⟩
  rw [eqv_keys, decide_eq_true rfl]
  refine iteF ?_
  have s010 := (s08.trans s9).trans s10
  refine ⟨_, rfl, l0_line, fun e he => ?_⟩
  have s11 : Same H10 (upd H10 e (.lst [])) := same_upd he
  have he11 := upd_same (H := H10) (a := e) (o := .lst [])
  generalize upd H10 e (.lst []) = H11 at s11 he11 ⊢
  refine ⟨_, _, dp_strs (ks := []) (SqL.of (s11 _ _ (s10 _ _ (s9 _ _ hD8)))), dp_strs (ks := []) (SqL.of he11), shaped_strs [] (fun _ z => nomatch z), shaped_strs [] (fun _ z => nomatch z), _, rfl, ?_⟩
  rw [eqv_keys, decide_eq_true rfl]
  refine iteF ?_
  have s011 := s010.trans s11
  refine ⟨_, rfl, l0_line, fun e2 he2 => ?_⟩
  have s12 : Same H11 (upd H11 e2 (.lst [])) := same_upd he2
  have he12 := upd_same (H := H11) (a := e2) (o := .lst [])
  generalize upd H11 e2 (.lst []) = H12 at s12 he12 ⊢
  have s012 := s011.trans s12
  refine ⟨_, _, dp_strs (ks := ks) (SqL.of (s012 _ _ h1)), dp_strs (ks := []) (SqL.of he12), shaped_strs ks hokS, shaped_strs [] (fun _ z => nomatch z), _, rfl, ?_⟩
  rw [eqv_keys]
  by_cases hks : ks = []
  rotate_left
  · rw [decide_eq_false hks]
    exact iteT (q H12 s012)
  rw [decide_eq_true hks]
  refine iteF ?_
  obtain ⟨tsp, hpp, hprs⟩ := pairsAt_mono s012 (hpt hks)
  have om := o1.mrg o2 o3
  have hboth : ∀ k, lk (mrg m1 m2 m3) k = if ch m1 m2 k = true then lk m2 k else if ch m1 m3 k = true then lk m3 k else lk m1 k := fun k => mrg_both o3.nd k (by
    cases hc0 : cf m1 m2 m3 k with
    | false => rfl
    | true => have := (cf1.mem k).mpr hc0; rw [hks] at this; cases this)
  generalize mrg m1 m2 m3 = mm at hprs om hboth
  have lm := om.len
  have lts : tsp.length = List.length mm := Paired.length hprs
  refine ⟨_, rfl, pt, rfl, ⟨_, SqL.of hpp⟩, fun D2 hD2 => ?_⟩
  refine lc_gen gen_list hD2 (fun H s' => SqL.of (s' _ _ hpp)) (fun i G y => ∃ t, y = V.ref t ∧ ∀ x, mm[i]? = some x → TupI H12 G t x) (fun _ => true) (fun i G G' y s' ⟨t, e, h⟩ => ⟨t, e, fun x hx => (h x hx).mono s'⟩) (by rw [List.length_map]; omega) ?_ ?_
  · rintro i x H13 acc Nx hi hx s13 hacc _ nx
    obtain ⟨t, ht, rfl⟩ := map_at hx
    obtain ⟨y, hy, v, hv, hd⟩ := paired_get hprs ht
    refine ⟨rfl, ifT (B := Nx H13) rfl ?_⟩
    refine ⟨_, rfl, t, _, _, _, rfl, rfl, SqL.of (s13 _ _ hv), atI_nat (j := 0) rfl, _, rfl, t, _, _, _, rfl, rfl, SqL.of (s13 _ _ hv), atI_nat (j := 1) rfl, l2_line, fun t2 ht2 => ?_⟩
    refine nx (.ref t2) _ (same_upd ht2) rfl ⟨t2, rfl, fun x hx2 => ?_⟩
    rw [hy] at hx2; cases hx2
    exact ⟨v, by rw [hid_ne (ne_of_none hacc ht2).symm, upd_same], hd⟩
  intro H13 acc s13 hD13 out
  obtain ⟨hal, hall⟩ := out_all out
  rw [List.length_map] at hal
  have pr : Paired (fun y x => ∃ t, y = V.ref t ∧ TupI H12 (hid D2 H13) t x) acc mm := paired_ix2 (by omega) fun i y x h1 h2 => by
    obtain ⟨t, e, h⟩ := hall i y h1
    exact ⟨t, e, h x h2⟩
  obtain ⟨ts0, rfl, hts0⟩ := refs_paired pr
  obtain ⟨kvs, hkp, hkv⟩ := tups_kv (Paired.mapP hts0 fun t x h => h.mono (rdS_of hid_sub))
  refine ⟨D2, ts0, kvs, rfl, SqL.of hD13, Paired.mapP hkp fun _ _ h => SqT.of h, fun rn hrn2 => ?_⟩
  have hkd : KvD H13 1 (mergeK [] kvs) mm := kvd_dict (hkv.mono (rdS_of s13)) om.nd
  have s14 : Same H13 (upd H13 rn (.dK (mergeK [] kvs))) := same_upd hrn2
  have hmn : MapAt (upd H13 rn (.dK (mergeK [] kvs))) rn mm := ⟨_, .inl upd_same, hkd.mono (rdS_of s14)⟩
  generalize upd H13 rn (.dK (mergeK [] kvs)) = H14 at s14 hmn
  have s014 := (s012.trans s13).trans s14
  clear hkd hkv hkp hts0 pr hall hal out hD13 hD2 hprs hpp
  have w14 := rdS_of s014
  have hc' : MapAt H c m3 := ⟨k3, hr3, hv3⟩
  have hg : gName 7 = fun v σ H Q => Q (σ.set 7 (some v)) H := rfl
  rw [hg]
  dsimp only [tSeq]
  refine @for_u3 K _ _ _ _ _ 0 1 2 a b c m1 m2 m3 ?_ ?_ ?_ (ha.mono w14) (hb.mono w14) (hc'.mono w14) o1 o2 o3 fun H15 l ys' s15 hl0 hl hs' nd' hm' hy' => ?_
  · rfl
  · rfl
  · rfl
  have s015 := s014.trans s15
  refine for_list (xs := ys'.map V.str) (fun i σ Hx => ∃ y8 y9 y10 y11 y12, σ = [some (.ref a), some (.ref b), some (.ref c), some (.ref p1), x4, some (.ref pt), x6, some (.ref rn), y8, y9, y10, y11, y12] ∧ Same H15 Hx)
    ⟨_, _, _, _, _, rfl, fun _ _ z => z⟩ (fun i σ Hx _ h => by obtain ⟨_, _, _, _, _, _, h⟩ := h; exact SqL.of (h _ _ hl)) ?_ ?_
  · rintro i x σ H16 hx ⟨y8, y9, y10, y11, y12, rfl, s16⟩
    obtain ⟨k, hk', rfl⟩ := map_at hx
    have w16 := rdS_of (s015.trans s16)
    have hmn16 := hmn.mono (rdS_of (s15.trans s16))
    refine ⟨_, rfl, _, rfl, l2_line, fun tt htt => ?_⟩
    have s17 : Same H16 (upd H16 tt (.tup [.ref b, .ref c])) := same_upd htt
    have htt17 := upd_same (H := H16) (a := tt) (o := .tup [.ref b, .ref c])
    generalize upd H16 tt (.tup [.ref b, .ref c]) = H17 at s17 htt17 ⊢
    have w17 := w16.trans (rdS_of s17)
    refine ⟨tt, rfl, ⟨_, SqT.of htt17⟩, fun D3 hD3 => ?_⟩
    refine lc_gen gen_tup hD3 (fun H s' => SqT.of (s' _ _ htt17)) (fun i G y => ∀ x, [m2, m3][i]? = some x → y = V.str (atS x k)) (fun i => (([m2, m3][i]?).map fun x => ch m1 x k).getD false) (fun _ _ _ _ _ h => h) (by show 2 ≤ 16000000; decide) ?_ ?_
    · rintro i' x H18 acc Nx hi hx' s18 hacc nx0 nx1
      refine ⟨rfl, ?_⟩
      have w18 := w17.trans (rdS_of s18)
      obtain ⟨ad, mx, rfl, hmx, hax, ox⟩ : ∃ ad mx, x = .ref ad ∧ [m2, m3][i']? = some mx ∧ MapAt H18 ad mx ∧ OkM 12 mx := by
        match i', hx' with
        | 0, hx' => exact ⟨b, m2, (Option.some.inj hx').symm, rfl, hb.mono w18, o2⟩
        | 1, hx' => exact ⟨c, m3, (Option.some.inj hx').symm, rfl, hc'.mono w18, o3⟩
        | n + 2, hx' => simp at hx'
      refine ⟨_, rfl, _, rfl, ad, mx, k, 12, rfl, hax, ox, _, rfl, _, rfl, a, m1, k, 12, rfl, ha.mono w18, o1, rfl, _, rfl, ?_⟩
      rw [atS_ch o1 ox]
      cases hch : ch m1 mx k with
      | false => exact ifF rfl (nx0 H18 (fun _ _ z => z) (by rw [hmx]; exact hch))
      | true =>
        refine ifT rfl ⟨_, rfl, _, rfl, ad, mx, k, 12, rfl, hax, ox, nx1 _ H18 (fun _ _ z => z) (by rw [hmx]; exact hch) fun x hx2 => ?_⟩
        rw [hmx] at hx2; cases hx2
        rfl
    intro H18 acc s18 hD18 out
    have kpf := kp_filter (m := [m2, m3]) (keep := fun i => (([m2, m3][i]?).map fun x => ch m1 x k).getD false) (P := fun x => ch m1 x k) (fun i x hx => by
      show (([m2, m3][i]?).map fun x => ch m1 x k).getD false = _
      rw [hx]
      rfl) 2 (Nat.le_refl _)
    have pr : Paired (fun y x => y = V.str (atS x k)) acc ([m2, m3].filter fun x => ch m1 x k) := paired_comp (fun i y x h1 h2 => h1 x h2) out kpf
    have eacc : acc = ([m2, m3].filter fun x => ch m1 x k).map fun x => V.str (atS x k) := by
      clear kpf out hD18 s18
      generalize [m2, m3].filter (fun x => ch m1 x k) = fl at pr
      induction pr with
      | nil => rfl
      | cons q _ ih => rw [List.map_cons, ← ih, q]
    subst eacc
    have w18 := w17.trans (rdS_of s18)
    have s1518 := (s16.trans s17).trans s18
    refine ⟨_, rfl, _, rfl, rn, mm, k, _, rfl, hmn16.mono (rdS_of (s17.trans s18)), om, _, rfl, _, rfl, _, rfl, a, m1, k, 12, rfl, ha.mono w18, o1, l1_line, fun e4 he4 => ?_⟩
    have s19 : Same H18 (upd H18 e4 (.lst [V.str (atS m1 k)])) := same_upd he4
    have he19 := upd_same (H := H18) (a := e4) (o := .lst [V.str (atS m1 k)])
    generalize upd H18 e4 (.lst [V.str (atS m1 k)]) = H19 at s19 he19 ⊢
    refine ⟨D3, e4, _, _, rfl, rfl, s19 _ _ hD18, he19, ?_, fun e5 he5 => ?_⟩
    · rw [List.length_map]
      have := List.length_filter_le (fun x => ch m1 x k) [m2, m3]
      exact le_line (by show _ + 1 ≤ 16000000; have h2 : [m2, m3].length = 2 := rfl; omega)
    have s20 : Same H19 (upd H19 e5 (.lst ((([m2, m3].filter fun x => ch m1 x k).map fun x => V.str (atS x k)) ++ [V.str (atS m1 k)]))) := same_upd he5
    have hval : ((([m2, m3].filter fun x => ch m1 x k).map fun x => V.str (atS x k)) ++ [V.str (atS m1 k)])[0]? = some (V.str (atS mm k)) := by
      have key : ∀ {mx : Mp}, lk mm k = lk mx k → V.str (atS mx k) = V.str (atS mm k) := fun {mx} e => by
        unfold atS
        rw [e]
      have hb' := hboth k
      cases c2 : ch m1 m2 k with
      | true =>
        rw [c2, if_pos rfl] at hb'
        rw [List.filter_cons_of_pos (by exact c2)]
        exact congrArg some (key hb')
      | false =>
        rw [c2, if_neg Bool.false_ne_true] at hb'
        rw [List.filter_cons_of_neg (by rw [c2]; exact Bool.false_ne_true)]
        cases c3 : ch m1 m3 k with
        | true =>
          rw [c3, if_pos rfl] at hb'
          rw [List.filter_cons_of_pos (by exact c3)]
          exact congrArg some (key hb')
        | false =>
          rw [c3, if_neg Bool.false_ne_true] at hb'
          rw [List.filter_cons_of_neg (by rw [c3]; exact Bool.false_ne_true)]
          exact congrArg some (key hb')
    refine ⟨e5, _, _, _, rfl, rfl, SqL.of upd_same, atI_nat (j := 0) hval, rfl, _, rfl, ?_⟩
    rw [decide_eq_true rfl]
    refine iteF ?_
    exact ⟨_, _, _, _, _, rfl, (s1518.trans s19).trans s20⟩
  · rintro σ H16 ⟨y8, y9, y10, y11, y12, rfl, s16⟩
    exact q H16 (s015.trans s16)
theorem ok_ri (F : Df K mg "_law_right" sRi ["_law_base", "_law_one", "_law_other"] f fd) (B : Bi mg) (T : CfTxt K mg C fI) (A' : Df K mg "_law_at" sAt ["_law_mapping_here", "_law_key"] fa fad) (C' : Df K mg "_law_conflicts" sLC ["_law_base", "_law_one", "_law_other"] fc fcd)
    (M' : Df K mg "_law_merged" sLM ["_law_base", "_law_one", "_law_other"] fm fmd) (T' : Df K mg "_law_told" sTo ["_law_base", "_law_one", "_law_other"] ft ftd) (L' : Df K mg "_law_listed" sLi ["_law_base", "_law_one", "_law_other"] fl fld)
    (N' : Df K mg "merged" sMg ["base", "one", "other"] fn fnd) (S' : Df K mg "are_same" sAS ["one", "other"] fs fsd)
    (GA : FnG pW w K mg base CX0 1 fa fad ["_law_mapping_here", "_law_key"] spAt) (GC : FnG pW w K mg base CX0 2 fc fcd ["_law_base", "_law_one", "_law_other"] spAC) (GM : FnG pW w K mg base CX0 2 fm fmd ["_law_base", "_law_one", "_law_other"] spLM)
    (GT : FnOk pW w K mg base CX0 9 ft ftd ["_law_base", "_law_one", "_law_other"] spTo) (GL : FnOk pW w K mg base CX0 10 fl fld ["_law_base", "_law_one", "_law_other"] spAC) (GN : FnOk pW w K mg base (L2.CX pW w) 8 fn fnd ["base", "one", "other"] (spMg C))
    (GS : FnOk pW w K mg base CX0 6 fs fsd ["one", "other"] spAS) : FnG pW w K mg base CX0 11 f fd ["_law_base", "_law_one", "_law_other"] spRi := by
  refine fn0G F.fn scRi (fun vs H Q E h => ?_) (fun cdv A outer s H vs Q E hG hr h => ?_)
  · obtain ⟨a, b, c, m1, m2, m3, rfl, _⟩ := h
    rfl
  · obtain ⟨a, b, c, m1, m2, m3, rfl, ha, hb, hc, o1, o2, o3, q⟩ := h
    have hu := hu_of hr
    have hr1 := hr.mono (by decide : 1 ≤ 10)
    have hr2 := hr.mono (by decide : 2 ≤ 10)
    have hr6 := hr.mono (by decide : 6 ≤ 10)
    have hr8 := hr.mono (by decide : 8 ≤ 10)
    have hr9 := hr.mono (by decide : 9 ≤ 10)
    obtain ⟨tt, htt, htail⟩ := ri_tail F B T A' C' M' T' L' N' S' GA GC GM GT GL GN GS (outer := outer) (s := s) (H0 := H) (E := E) hG hr
    refine ⟨_, pss_cons (ps_par (i := 3) (j := 4) rfl scRi.nd rfl rfl (by decide) rfl rfl (pa_cons (pe_callG GC hG hr2 rfl C'.m C'.fn.kp C'.b .nil pass0 (pa_cons (pv 0) (pa_cons (pv 1) (pa_cons (pv 2) pa_nil))))
        (pa_cons (pe_callB (call_reprD hG hr.units) (by rfl) B.repr (by decide +kernel) (pa_cons (pe_lst (pa_cons (pv 0) (pa_cons (pv 1) (pa_cons (pv 2) pa_nil)))) pa_nil)) pa_nil)) rfl)
      (pss_cons (ps_if (PW.pt (pw_or (pt_cmpR (op_neD hr.units) (pe_call GL hr rfl L'.m L'.fn.kp L'.b .nil pass0 (pa_cons (pv 0) (pa_cons (pv 1) (pa_cons (pv 2) pa_nil)))) (pv 3) (nomark _))
          (pw_or1 (pt_cmpR (op_neD hr.units) (pe_call GL hr rfl L'.m L'.fn.kp L'.b .nil pass0 (pa_cons (pv 0) (pa_cons (pv 2) (pa_cons (pv 1) pa_nil)))) (pv 3) (nomark _))))) (pss_one (ps_ret pe_bl)) pss_nil)
      (pss_cons (ps_set (i := 5) scRi.nd rfl (Or.inl rfl) (pe_call GT hr9 rfl T'.m T'.fn.kp T'.b .nil pass0 (pa_cons (pv 0) (pa_cons (pv 1) (pa_cons (pv 2) pa_nil)))))
      (pss_cons (ps_set (i := 6) scRi.nd rfl (Or.inl rfl) (pe_ifExp (pt_cmpR (op_neD hr.units) (pv 3) (pe_lst pa_nil) (nomark _)) (pe_callTy call_tuple_of (by rfl) B.tuple (by decide +kernel) (pa_cons (pv 3) pa_nil))
          (pe_callG GM hG hr2 rfl M'.m M'.fn.kp M'.b .nil pass0 (pa_cons (pv 0) (pa_cons (pv 1) (pa_cons (pv 2) pa_nil))))))
      (pss_cons (ps_if (PW.pt (pw_or (pt_cmpR op_ne (pe_callB (call_reprD hG hr.units) (by rfl) B.repr (by decide +kernel) (pa_cons (pv 5) pa_nil)) (pe_callB (call_reprD hG hr.units) (by rfl) B.repr (by decide +kernel) (pa_cons (pv 6) pa_nil)) (nomark _))
          (pw_or1 (pt_cmpR op_ne (pe_callB (call_reprD hG hr.units) (by rfl) B.repr (by decide +kernel) (pa_cons (pe_lst (pa_cons (pv 0) (pa_cons (pv 1) (pa_cons (pv 2) pa_nil)))) pa_nil)) (pv 4) (nomark _))))) (pss_one (ps_ret pe_bl)) pss_nil)
      htt)))), ?_⟩
    refine ⟨_, rfl, _, rfl, _, rfl, a, b, c, m1, m2, m3, rfl, ha, hb, hc, o1, o2, o3, fun H1 p1 ks s1 hn1 h1 cf1 l1 => ?_⟩
    have hok : ∀ k ∈ ks, okK k := cf1.ok o1 o2 o3
    have hokS : ∀ k ∈ ks, okS k := fun k hk => (hok k hk).1
    refine ⟨_, rfl, _, rfl, _, rfl, l3_line, fun l hl => ?_⟩
    have s2 : Same H (upd H1 l (.lst [.ref a, .ref b, .ref c])) := s1.trans (same_upd hl)
    have w2 := rdS_of s2
    refine ⟨.ref l, mapsD m1 m2 m3, 3, rfl, by decide, mapsD_isD upd_same (ha.mono w2) (hb.mono w2) (hc.mono w2), mapsD_gd (by decide) o1 o2 o3, _, _, rfl, ?_⟩
    have h12 : upd H1 l (.lst [.ref a, .ref b, .ref c]) p1 = some (.lst (ks.map V.str)) := same_upd hl p1 _ h1
    generalize upd H1 l (.lst [.ref a, .ref b, .ref c]) = H2 at s2 w2 h12 ⊢
    refine ⟨_, rfl, _, rfl, _, rfl, a, b, c, m1, m2, m3, rfl, ha.mono w2, hb.mono w2, hc.mono w2, o1, o2, o3, fun H3 p3 ks3 s3 hn3 h3 cf3 l3 => ?_⟩
    have e3 : ks3 = ks := cf3.uniq cf1
    subst e3
    refine ⟨_, rfl, _, _, dp_strs (SqL.of h3), dp_strs (SqL.of (s3 _ _ h12)), shaped_strs ks3 hokS, shaped_strs ks3 hokS, _, rfl, ?_⟩
    rw [eqv_keys, decide_eq_true rfl]
    refine iteF ?_
    have s03 := s2.trans s3
    have w3 := rdS_of s03
    refine ⟨_, rfl, _, rfl, _, rfl, a, c, b, m1, m3, m2, rfl, ha.mono w3, hc.mono w3, hb.mono w3, o1, o3, o2, fun H4 p4 ks4 s4 hn4 h4 cf4 l4 => ?_⟩
    have e4 : ks4 = ks3 := cf4.uniq cf1.comm
    subst e4
    have h14 := s4 _ _ (s3 _ _ h12)
    refine ⟨_, rfl, _, _, dp_strs (SqL.of h4), dp_strs (SqL.of h14), shaped_strs ks4 hokS, shaped_strs ks4 hokS, _, rfl, ?_⟩
    rw [eqv_keys, decide_eq_true rfl]
    refine iteF ?_
    have s04 := s03.trans s4
    have w4 := rdS_of s04
    clear hn1 hl hn3 h3 cf3 l3 hn4 h4 cf4 l4 s3 s4 w3 w2 s03 s2 h12 h1 s1
    have lk1 := l1
    have kept : ∀ {H' : Hp} {l : Addr}, Same H H' → H' l = none → IsD (upd H' l (.lst [.ref a, .ref b, .ref c])) 3 (.ref l) (mapsD m1 m2 m3) := fun {H' l} s' hl =>
      have w' := rdS_of (s'.trans (same_upd (o := .lst [.ref a, .ref b, .ref c]) hl))
      mapsD_isD upd_same (ha.mono w') (hb.mono w') (hc.mono w')
    refine ⟨_, rfl, _, rfl, _, rfl, a, b, c, m1, m2, m3, rfl, ha.mono w4, hb.mono w4, hc.mono w4, o1, o2, o3, fun H5 r s5 cf5 hp5 => ?_, fun H5 r ks5 s5 cf5 hne5 l5 ht5 => ?_⟩
    · have e5 : ks4 = [] := cf1.uniq cf5
      refine ⟨_, rfl, l0_line, fun e he => ?_⟩
      have s6 : Same H5 (upd H5 e (.lst [])) := same_upd he
      refine ⟨_, _, dp_strs (ks := ks4) (SqL.of (s6 _ _ (s5 _ _ h14))), dp_strs (ks := []) (SqL.of upd_same), shaped_strs ks4 hokS, shaped_strs [] (fun _ z => nomatch z), _, rfl, ?_⟩
      rw [eqv_keys, decide_eq_true e5]
      refine iteF ?_
      have s06 := (s04.trans s5).trans s6
      have hp6 := pairsAt_mono s6 hp5
      have h16 := s6 _ _ (s5 _ _ h14)
      generalize upd H5 e (.lst []) = H6 at s6 s06 hp6 h16 ⊢
      have w6 := rdS_of s06
      refine ⟨_, rfl, _, rfl, _, rfl, a, b, c, m1, m2, m3, rfl, ha.mono w6, hb.mono w6, hc.mono w6, o1, o2, o3, fun H7 r7 s7 hn7 hp7 => ?_⟩
      refine ⟨_, rfl, .ref r, pairsD (mrg m1 m2 m3), 3, rfl, by decide, pairsAt_isD (pairsAt_mono s7 hp6), pairsD_gd (o1.mrg o2 o3) (by decide), _, rfl, .ref r7, pairsD (mrg m1 m2 m3), 3, rfl, by decide, pairsAt_isD hp7, pairsD_gd (o1.mrg o2 o3) (by decide), rfl, _, rfl, ?_⟩
      rw [decide_eq_true rfl]
      refine iteF ?_
      have s07 := s06.trans s7
      refine ⟨_, rfl, _, rfl, _, rfl, l3_line, fun l hl => ⟨.ref l, mapsD m1 m2 m3, 3, rfl, by decide, kept s07 hl, mapsD_gd (by decide) o1 o2 o3, _, rfl, rfl, _, rfl, ?_⟩⟩
      rw [decide_eq_true rfl]
      refine iteF ?_
      have s8 : Same H7 (upd H7 l (.lst [.ref a, .ref b, .ref c])) := same_upd hl
      have s08 := s07.trans s8
      have w8 := rdS_of s08
      exact htail _ _ a b c p1 r m1 m2 m3 ks4 _ _ _ _ _ _ _ _ (ha.mono w8) (hb.mono w8) (hc.mono w8) o1 o2 o3 (s8 _ _ (s7 _ _ h16)) hokS cf1 (fun _ => pairsAt_mono s8 (pairsAt_mono s7 hp6)) fun H' s' => q H' (s08.trans s')
    · have e5 : ks5 = ks4 := cf5.uniq cf1
      subst e5
      refine ⟨_, rfl, l0_line, fun e he => ?_⟩
      have s6 : Same H5 (upd H5 e (.lst [])) := same_upd he
      have h16 := s6 _ _ (s5 _ _ h14)
      refine ⟨_, _, dp_strs (ks := ks5) (SqL.of h16), dp_strs (ks := []) (SqL.of upd_same), shaped_strs ks5 hokS, shaped_strs [] (fun _ z => nomatch z), _, rfl, ?_⟩
      rw [eqv_keys, decide_eq_false hne5]
      refine iteT ?_
      have s06 := (s04.trans s5).trans s6
      have ht6 := s6 _ _ ht5
      generalize upd H5 e (.lst []) = H6 at s6 s06 ht6 h16 ⊢
      refine ⟨_, rfl, p1, _, rfl, .inl ⟨SqL.of h16, fun t ht => ?_⟩⟩
      have s7 : Same H6 (upd H6 t (.tup (ks5.map V.str))) := same_upd ht
      refine ⟨_, rfl, .ref r, keysD ks5, 1, rfl, by decide, keysD_isD (s7 _ _ ht6), keysD_gd hok lk1, _, rfl, .ref t, keysD ks5, 1, rfl, by decide, keysD_isD upd_same, keysD_gd hok lk1, rfl, _, rfl, ?_⟩
      rw [decide_eq_true rfl]
      refine iteF ?_
      have s07 := s06.trans s7
      have h17 := s7 _ _ h16
      generalize upd H6 t (.tup (ks5.map V.str)) = H7 at s7 s07 h17 ⊢
      refine ⟨_, rfl, _, rfl, _, rfl, l3_line, fun l hl => ⟨.ref l, mapsD m1 m2 m3, 3, rfl, by decide, kept s07 hl, mapsD_gd (by decide) o1 o2 o3, _, rfl, rfl, _, rfl, ?_⟩⟩
      rw [decide_eq_true rfl]
      refine iteF ?_
      have s8 : Same H7 (upd H7 l (.lst [.ref a, .ref b, .ref c])) := same_upd hl
      have s08 := s07.trans s8
      have w8 := rdS_of s08
      exact htail _ _ a b c p1 r m1 m2 m3 ks5 _ _ _ _ _ _ _ _ (ha.mono w8) (hb.mono w8) (hc.mono w8) o1 o2 o3 (s8 _ _ h17) hokS cf1 (fun z => absurd z hne5) fun H' s' => q H' (s08.trans s')
end
end Mw

end

section
set_option Elab.async false
set_option linter.all false
set_option maxRecDepth 100000
set_option maxHeartbeats 4000000
/-! _law_pick. -/
namespace Mw
open PySem PySem.Spec PyProof.Rows L2
/-- the source at S -/
def Src (H : Hp) (S : Addr) : Prop := ∃ x y : Int, H S = some (.lst [.int x, .int y])
/-- all but the source is kept -/
structure Ev (S : Addr) (H H' : Hp) : Prop where
  same : Same (hid S H) (hid S H')
  src : Src H' S
theorem Ev.refl {S : Addr} {H : Hp} (h : Src H S) : Ev S H H := ⟨fun _ _ z => z, h⟩
theorem Ev.trans {S : Addr} {H H1 H2 : Hp} (a : Ev S H H1) (b : Ev S H1 H2) : Ev S H H2 := ⟨a.same.trans b.same, b.src⟩
theorem Ev.at {S : Addr} {H H' : Hp} (e : Ev S H H') {b : Addr} {o : HO} (hb : b ≠ S) (h : H b = some o) : H' b = some o := by
  have := e.same b o (by rw [hid_ne hb]; exact h)
  rw [hid_ne hb] at this
  exact this
theorem ev_new {S : Addr} {H : Hp} {p : Addr} {o : HO} (h : Src H S) (hp : H p = none) : Ev S H (upd H p o) := by
  obtain ⟨x, y, hS⟩ := h
  have hne : S ≠ p := fun z => by rw [z, hp] at hS; cases hS
  exact ⟨hid_mono fun b u _ e => same_upd hp b u e, x, y, by rw [upd_ne hne]; exact hS⟩
theorem ev_src {S : Addr} {H : Hp} {x y : Int} : Ev S H (upd H S (.lst [.int x, .int y])) := ⟨by rw [upd_hid]; exact fun _ _ z => z, x, y, upd_same⟩
theorem Ev.free {S : Addr} {H H' : Hp} (e : Ev S H H') (h : Src H S) {b : Addr} (hb : H' b = none) : H b = none := by
  cases q : H b with
  | none => rfl
  | some o =>
    by_cases hbS : b = S
    · obtain ⟨x, y, h'⟩ := e.src
      rw [hbS, h'] at hb; cases hb
    · have := e.at hbS q
      rw [hb] at this; cases this
theorem Src.ne {S : Addr} {H : Hp} (h : Src H S) {b : Addr} (hb : H b = none) : b ≠ S := fun z => by
  obtain ⟨x, y, h'⟩ := h
  rw [z, h'] at hb; cases hb
abbrev sPk : Stmt := top 35
theorem scPk : FnScope ["_law_source_here", "_law_amount", "_law_place", "_law_choice"] ["_law_source_here", "_law_amount"] (defScope sPk) := ⟨rfl, rfl, rfl, by decide +kernel, rfl, by decide +kernel, by decide +kernel⟩
def spPk : Sp := fun vs H Q _ => ∃ (S : Addr) (n : Int), vs = [.ref S, .int n] ∧ 0 < n ∧ n ≤ 10 ^ 18 ∧ Src H S ∧ ∀ c x y : Int, 0 ≤ c → c < n → Q (.int c) (upd H S (.lst [.int x, .int y]))
section
variable {P : Program} {w : World} {K : PySem.W.Frag} {mg : Str → Option Value} {base : Heap} {f : Addr} {fd : FuncData}
theorem ok_pk (F : Df K mg "_law_pick" sPk ["_law_source_here", "_law_amount"] f fd) (B : Bi mg) : FnOk P w K mg base CX0 1 f fd ["_law_source_here", "_law_amount"] spPk := by
  refine F.fn.ok scPk (fun vs H Q E h => ?_) (fun cdv A outer s H vs Q E hr h => ?_)
  · obtain ⟨S, n, rfl, _⟩ := h
    rfl
  · obtain ⟨S, n, rfl, h0, h18, ⟨x, y, hS⟩, q⟩ := h
    refine ⟨_, pss_cons (ps_set (i := 2) scPk.nd rfl (Or.inl rfl) (pe_callTy call_int1 (by rfl) B.int (by decide +kernel) (pa_cons (pe_cmpR op_eq (pe_ix ix_list (pv 0) pe_int (fun _ _ => rfl)) pe_int (nomark _)) pa_nil)))
      (pss_cons (ps_set (i := 3) scPk.nd rfl (Or.inl rfl) (pe_op op_mod (pe_ix ix_list (pv 0) (pv 2) (fun _ _ => rfl)) (pv 1)))
      (pss_cons (ps_asg (pe_op op_fdivW (pe_ix ix_list (pv 0) (pv 2) (fun _ _ => rfl)) (pv 1)) (pg_sub (pv 0) (pv 2) set_list))
      (pss_one (ps_ret (pv 3))))), ?_⟩
    have hw : CDivW x n ∧ CDivW y n := by
      have hn : n.natAbs < 2 ^ 64 := by omega
      exact ⟨wide_div h0 hn (by decide) (by decide), wide_div h0 hn (by decide) (by decide)⟩
    refine ⟨_, rfl, S, _, _, _, rfl, rfl, SqL.of hS, atI_nat (j := 0) rfl, rfl, .inr ⟨_, rfl, ?_⟩⟩
    by_cases hx : x = 0
    · have e : decide (V.int x = V.int 0) = true := decide_eq_true (by rw [hx])
      rw [e]
      refine ⟨_, rfl, _, rfl, S, _, _, _, rfl, rfl, SqL.of hS, atI_nat (j := 1) rfl, _, rfl, _, _, rfl, rfl, h0, ?_⟩
      refine ⟨_, rfl, _, rfl, S, _, _, _, rfl, rfl, SqL.of hS, atI_nat (j := 1) rfl, _, rfl, _, _, rfl, rfl, hw.2, ?_⟩
      refine ⟨_, rfl, _, rfl, S, _, _, 1, rfl, rfl, hS, rfl, ?_⟩
      exact ⟨_, rfl, q _ _ _ (Int.emod_nonneg _ (by omega)) (Int.emod_lt_of_pos _ h0)⟩
    · have e : decide (V.int x = V.int 0) = false := decide_eq_false fun z => hx (V.int.inj z)
      rw [e]
      refine ⟨_, rfl, _, rfl, S, _, _, _, rfl, rfl, SqL.of hS, atI_nat (j := 0) rfl, _, rfl, _, _, rfl, rfl, h0, ?_⟩
      refine ⟨_, rfl, _, rfl, S, _, _, _, rfl, rfl, SqL.of hS, atI_nat (j := 0) rfl, _, rfl, _, _, rfl, rfl, hw.1, ?_⟩
      refine ⟨_, rfl, _, rfl, S, _, _, 0, rfl, rfl, hS, rfl, ?_⟩
      exact ⟨_, rfl, q _ _ _ (Int.emod_nonneg _ (by omega)) (Int.emod_lt_of_pos _ h0)⟩
end
end Mw

end

section
set_option Elab.async false
set_option linter.all false
set_option maxRecDepth 100000
set_option maxHeartbeats 4000000
/-! _law_source. -/
namespace Mw
open PySem PySem.Spec PyProof.Rows L2
abbrev sSr : Stmt := top 34
theorem scSr : FnScope ["_law_script", "_law_k", "_law_cell", "_law_mixed", "_law_step", "_law_more"] ["_law_script", "_law_k"] (defScope sSr) := ⟨rfl, rfl, rfl, by decide +kernel, rfl, by decide +kernel, by decide +kernel⟩
def spSr (K : PySem.W.Frag) : Sp := fun vs H Q _ => ∃ (a : Addr) (k : Nat) (ns : List Int), vs = [.ref a, .int k] ∧ k < 64 ∧ SqL K H a (ns.map V.int) ∧ ∀ (p : Addr) (x y : Int), H p = none → Q (.ref p) (upd H p (.lst [.int x, .int y]))
theorem mul_l {i j : Int} (h : -(2 ^ 64) < i ∧ i < 2 ^ 64) : CMul i j := .inl h
theorem mul_r {i j : Int} (h : -(2 ^ 64) < j ∧ j < 2 ^ 64) : CMul i j := .inr h
section
variable {P : Program} {w : World} {K : PySem.W.Frag} {mg : Str → Option Value} {base : Heap} {f : Addr} {fd : FuncData}
theorem ok_sr (F : Df K mg "_law_source" sSr ["_law_script", "_law_k"] f fd) (B : Bi mg) : FnOk P w K mg base CX0 1 f fd ["_law_script", "_law_k"] (spSr K) := by
  refine F.fn.ok scSr (fun vs H Q E h => ?_) (fun cdv A outer s H vs Q E hr h => ?_)
  · obtain ⟨a, k, ns, rfl, _⟩ := h
    rfl
  · obtain ⟨a, k, ns, rfl, hk, ha, q⟩ := h
    refine ⟨_, pss_cons (ps_set (i := 2) scSr.nd rfl (Or.inl rfl) (pe_ifExp (pt_cmpR op_lt (pv 1) (pe_callB call_len_seq (by rfl) B.len PySem.boot_len (pa_cons (pv 0) pa_nil)) (nomark _))
        (pe_op op_mod (pe_ix ix_list (pv 0) (pv 1) (fun _ _ => rfl)) (pe_op op_mul pe_int (pe_op op_pow pe_int pe_int))) pe_int))
      (pss_cons (ps_set (i := 3) scSr.nd rfl (Or.inl rfl) pe_int)
      (pss_cons (ps_for PassesOwn.never rfl (pi_range1 (by rfl) B.range (pa_cons pe_int pa_nil)) (pg_name (i := 4) scSr.nd rfl (Or.inl rfl))
        (pss_cons (ps_set (i := 5) scSr.nd rfl (Or.inl rfl) (pe_op op_mod (pe_op op_add (pe_op op_add (pe_op op_mul (pv 2) pe_int) (pe_op op_mul pe_int (pe_op op_add (pv 1) (pe_op op_mul pe_int (pv 4))))) pe_int) pe_int))
        (pss_one (ps_set (i := 3) scSr.nd rfl (Or.inl rfl) (pe_op op_add (pe_op op_mul (pv 3) pe_int) (pe_op op_mod (pe_op op_add (pe_op op_pow (pv 5) pe_int) (pe_op op_mul (pv 4) (pv 5))) pe_int))))))
      (pss_one (ps_ret (pe_lst (pa_cons (pe_op op_mul (pv 2) (pe_callTy call_int1 (by rfl) B.int (by decide +kernel) (pa_cons (pe_cmpR op_ge (pv 2) (pe_op op_pow pe_int pe_int) (nomark _)) pa_nil))) (pa_cons (pv 3) pa_nil))))))), ?_⟩
    have tail : ∀ cell : Int, (tSeq (tAsg (tC (.int 0)) (gName 3)) (tSeq (tFor (iRng1 (tCons (tC (.int 70)) tNil)) (gName 4)
        (tSeq (tAsg (tOp (rI (fun _ j => 0 < j) fun i j => .int (i % j)) (tOp (rI0 fun i j => .int (i + j)) (tOp (rI0 fun i j => .int (i + j)) (tOp (rI CMul fun i j => .int (i * j)) (tVar 2) (tC (.int 48271))) (tOp (rI CMul fun i j => .int (i * j)) (tC (.int 7919)) (tOp (rI0 fun i j => .int (i + j)) (tVar 1) (tOp (rI CMul fun i j => .int (i * j)) (tC (.int 64)) (tVar 4))))) (tC (.int 12345))) (tC (.int 2147483647))) (gName 5))
          (tAsg (tOp (rI0 fun i j => .int (i + j)) (tOp (rI CMul fun i j => .int (i * j)) (tVar 3) (tC (.int 2147483629))) (tOp (rI (fun _ j => 0 < j) fun i j => .int (i % j)) (tOp (rI0 fun i j => .int (i + j)) (tOp (rI CPow fun i j => .int (i ^ j.toNat)) (tVar 5) (tC (.int 5))) (tOp (rI CMul fun i j => .int (i * j)) (tVar 4) (tVar 5))) (tC (.int 2147483629)))) (gName 3))))
        (tRet (tLst (tCons (tOp (rI CMul fun i j => .int (i * j)) (tVar 2) (tCB (fun xs H Q => (∃ i, xs = [.int i] ∧ Q (.int i) H) ∨ ∃ k, xs = [.bl k] ∧ Q (.int (if k then 1 else 0)) H) (tCons (tOp (rI0 fun i j => .bl (decide (j ≤ i))) (tVar 2) (tOp (rI CPow fun i j => .int (i ^ j.toNat)) (tC (.int 10)) (tC (.int 18)))) tNil))) (tCons (tVar 3) tNil))))))
        { nx := fun _ H' => Q .non H', rt := Q } [some (.ref a), some (.int k), some (.int cell), none, none, none] H := by
      intro cell
      refine ⟨70, rfl, by decide, by decide, for_range (fun i σ H1 => ∃ (m : Int) (x4 x5 : Option V), σ = [some (.ref a), some (.int k), some (.int cell), some (.int m), x4, x5] ∧ H1 = H) ⟨0, _, _, rfl, rfl⟩ ?_ ?_⟩
      · rintro i σ H1 hi ⟨m, x4, x5, rfl, rfl⟩
        have hi' : i < 70 := hi
        have h0 : (0 : Int) ≤ (cell * 48271 + 7919 * ((k : Int) + 64 * (0 + (i : Int))) + 12345) % 2147483647 := Int.emod_nonneg _ (by decide)
        have h1 : (cell * 48271 + 7919 * ((k : Int) + 64 * (0 + (i : Int))) + 12345) % 2147483647 < 2147483647 := Int.emod_lt_of_pos _ (by decide)
        refine ⟨_, rfl, _, _, rfl, rfl, mul_r (by decide), _, rfl, _, rfl, _, _, rfl, rfl, mul_l (by decide), _, _, rfl, rfl, _, _, rfl, rfl, mul_l (by decide), _, _, rfl, rfl, _, _, rfl, rfl, _, _, rfl, rfl, (show (0 : Int) < 2147483647 by decide), ?_⟩
        refine ⟨_, rfl, _, _, rfl, rfl, mul_r (by decide), _, rfl, _, _, rfl, rfl, ⟨by decide, by decide, by omega⟩, _, rfl, _, rfl, _, _, rfl, rfl, mul_l (by omega), _, _, rfl, rfl, _, _, rfl, rfl, (show (0 : Int) < 2147483629 by decide), _, _, rfl, rfl, ?_⟩
        exact ⟨_, _, _, rfl, rfl⟩
      · rintro σ H1 ⟨m, x4, x5, rfl, rfl⟩
        refine ⟨_, rfl, _, rfl, _, _, rfl, rfl, ⟨by decide, by decide, by decide⟩, _, _, rfl, rfl, .inr ⟨_, rfl, _, _, rfl, rfl, mul_r (by split <;> decide), _, rfl, l2_line, fun p hp => ?_⟩⟩
        exact q p _ _ hp
    refine ⟨_, rfl, _, rfl, a, _, rfl, .inl ha, _, _, rfl, rfl, _, rfl, ?_⟩
    by_cases hlt : (k : Int) < ((ns.map V.int).length : Int)
    · refine ifT (decide_eq_true hlt) ?_
      have hk2 : k < ns.length := by rw [List.length_map] at hlt; omega
      refine ⟨_, rfl, _, rfl, a, _, _, _, rfl, rfl, ha, atI_nat (by rw [List.getElem?_map, List.getElem?_eq_getElem hk2]; rfl), _, _, rfl, rfl, ⟨by decide, by decide, by decide⟩, _, _, rfl, rfl, mul_l (by decide), _, _, rfl, rfl, (show (0 : Int) < 2 * 10 ^ Int.toNat 60 by decide), ?_⟩
      exact tail _
    · refine ifF (decide_eq_false hlt) ?_
      exact tail _
end
end Mw

end

section
set_option Elab.async false
set_option linter.all false
set_option maxRecDepth 100000
set_option maxHeartbeats 4000000
/-! The comprehension whose turns spend the source; _law_string. -/
namespace Mw
open PySem PySem.Spec PyProof.Rows L2
theorem lcS_gen {S : Addr} {J : It} {n : Nat} {src : Nat → V → Prop} {ok : Hp → Prop} {g : TG} {tt : TT} {te : TE} {vs : List Nat} {σ : L2.St} {H1 : Hp} {D : Addr} {Qd : Hp → Prop} (G : Gen J n src ok) (hD : H1 D = none) (hS : Src H1 S) (okS : ∀ H, Ev S H1 H → ok H)
    (R : Nat → Hp → V → Prop) (keep : Nat → Bool) (mono : ∀ i H H' y, RdS H H' → R i H y → R i H' y) (hn : n ≤ 16000000)
    (turn : ∀ (i : Nat) (x : V) (H : Hp) (acc : List V) (Nx : Hp → Prop), i < n → src i x → Ev S H1 H → H D = some (.lst acc) → (∀ H3, Ev S H H3 → keep i = false → Nx H3) →
      (∀ y H4, Ev S H H4 → keep i = true → R i (hid S (hid D H4)) y → ∃ acc, H4 D = some (.lst acc) ∧ acc.length < sizeLine ∧ Nx (upd H4 D (.lst (acc ++ [y])))) →
      g x (wipe σ vs) H fun σ2 H2 => wipe σ2 vs = wipe σ vs ∧ tt σ2 H2 fun b H3 => if b = true then te σ2 H3 fun y H4 => ∃ acc, H4 D = some (.lst acc) ∧ acc.length < sizeLine ∧ Nx (upd H4 D (.lst (acc ++ [y]))) else Nx H3)
    (done : ∀ H acc, Ev S H1 H → H D = some (.lst acc) → Out R keep n (hid S (hid D H)) acc → Qd H) :
    ∃ W : Nat → Nat → Hp → Prop, (∃ m, W 0 m (upd H1 D (.lst []))) ∧ ∀ i m H, W i m H →
      (J.stop i H ∧ Qd H) ∨ (J.go i H ∧ ∃ Nx : Hp → Prop, (∀ H', Nx H' → ∃ m', m' < m ∧ W (i + 1) m' H') ∧ ∀ x H', J.yld i H x H' → g x (wipe σ vs) H' fun σ2 H2 => wipe σ2 vs = wipe σ vs ∧ tt σ2 H2 fun b H3 =>
        if b = true then te σ2 H3 fun y H4 => ∃ acc, H4 D = some (.lst acc) ∧ acc.length < sizeLine ∧ Nx (upd H4 D (.lst (acc ++ [y]))) else Nx H3) := by
  have hDS : D ≠ S := hS.ne hD
  let Pv : Nat → Hp → Prop := fun i H => Ev S H1 H ∧ ∃ acc, H D = some (.lst acc) ∧ Out R keep i (hid S (hid D H)) acc
  have hh : ∀ {H H' : Hp}, Ev S H H' → RdS (hid S (hid D H)) (hid S (hid D H')) := fun {H H'} e => rdS_of fun b o q => by
    have hbS : b ≠ S := fun z => by rw [z, hid_same] at q; cases q
    rw [hid_ne hbS] at q
    have hbD : b ≠ D := fun z => by rw [z, hid_same] at q; cases q
    rw [hid_ne hbD] at q
    rw [hid_ne hbS, hid_ne hbD]
    exact e.at hbS q
  refine ⟨fun i m H => m = n - i ∧ i ≤ n ∧ Pv i H, ⟨n, by simp, Nat.zero_le _, ev_new hS hD, [], upd_same, .nil⟩, ?_⟩
  rintro i m H ⟨rfl, hi, s1, acc, hacc, out⟩
  by_cases hlt : i < n
  · refine .inr ⟨G.go i H (okS H s1) hlt, Pv (i + 1), fun H' p' => ⟨n - (i + 1), by omega, rfl, hlt, p'⟩, fun x H' y => ?_⟩
    obtain ⟨e, hx⟩ := G.yld i H x H' (okS H s1) hlt y
    subst e
    refine turn i x _ acc (Pv (i + 1)) hlt hx s1 hacc (fun H3 s3 hk => ⟨s1.trans s3, acc, s3.at hDS hacc, ?_⟩) (fun y H4 s4 hk hr => ⟨acc, s4.at hDS hacc, ?_, ?_, ?_⟩)
    · show Out R keep (i + 1) _ _
      unfold Out
      rw [kp_succ, if_neg (by rw [hk]; exact Bool.false_ne_true)]
      exact Paired.mapP out fun i y r => mono i _ _ y (hh s3) r
    · have hl : acc.length ≤ i := by
        have := Paired.length out
        have h2 := kp_len keep i
        omega
      exact lt_line (by omega)
    · have e14 := s1.trans s4
      obtain ⟨x0, y0, hx0⟩ := e14.src
      refine ⟨fun b o e => ?_, x0, y0, by rw [upd_ne hDS.symm]; exact hx0⟩
      have hb1 := e14.same b o e
      have hbS : b ≠ S := fun z => by rw [z, hid_same] at e; cases e
      rw [hid_ne hbS] at e hb1 ⊢
      rw [upd_ne (ne_of_none e hD)]
      exact hb1
    · refine ⟨acc ++ [y], upd_same, ?_⟩
      show Out R keep (i + 1) _ _
      unfold Out
      rw [kp_succ, if_pos hk, upd_hid]
      exact paired_app (Paired.mapP out fun i y r => mono i _ _ y (hh s4) r) hr
  · have e : i = n := by omega
    subst e
    exact .inl ⟨G.stop H (okS H s1), done H acc s1 hacc out⟩
end Mw

end

section
set_option Elab.async false
set_option linter.all false
set_option maxRecDepth 100000
set_option maxHeartbeats 4000000
/-! _law_string. -/
namespace Mw
open PySem PySem.Spec PyProof.Rows L2
abbrev sigT : Str := "ab \"\\\n~1,:]"
theorem sigT_ok : okS sigT := by
  unfold okS
  decide +kernel
theorem sigT_len : (cs sigT).length = 11 := by decide +kernel
theorem sigT_at {c : Int} (h0 : 0 ≤ c) (h1 : c < 11) : ∃ d, d ∈ signs ∧ atI sigT.cps.toList c = some d := by
  obtain ⟨n, rfl⟩ := Int.eq_ofNat_of_zero_le h0
  have hn : n < (cs sigT).length := by rw [sigT_len]; omega
  exact ⟨(cs sigT)[n], sigT_ok _ (List.getElem_mem hn), atI_nat (List.getElem?_eq_getElem hn)⟩
theorem chars_of : ∀ {n : Nat} {keep : Nat → Bool} {G : Hp} {acc : List V}, Out (fun _ _ y => ∃ c, c ∈ signs ∧ y = V.str ⟨#[c]⟩) keep n G acc → ∃ ys : List Str, acc = ys.map V.str ∧ ys.length ≤ n ∧ ∀ y ∈ ys, ∃ c, c ∈ signs ∧ y = ⟨#[c]⟩ := by
  intro n keep G acc h
  have hl := kp_len keep n
  unfold Out at h
  generalize kp keep n = l at h hl
  have key : ∃ ys : List Str, acc = ys.map V.str ∧ ys.length = l.length ∧ ∀ y ∈ ys, ∃ c, c ∈ signs ∧ y = ⟨#[c]⟩ := by
    clear hl
    induction h with
    | nil => exact ⟨[], rfl, rfl, (fun _ z => nomatch z)⟩
    | cons q _ ih =>
      obtain ⟨ys, e, hl, hy⟩ := ih
      obtain ⟨c, hc, ec⟩ := q
      refine ⟨⟨#[c]⟩ :: ys, by rw [e, ec]; rfl, by rw [List.length_cons, List.length_cons, hl], fun y hm => ?_⟩
      rcases List.mem_cons.mp hm with rfl | hm
      · exact ⟨c, hc, rfl⟩
      · exact hy y hm
  obtain ⟨ys, e, h2, h3⟩ := key
  exact ⟨ys, e, by omega, h3⟩
theorem joined_ok {ys : List Str} (h : ∀ y ∈ ys, ∃ c, c ∈ signs ∧ y = ⟨#[c]⟩) : okS (Txt.join "" ys) ∧ (Txt.join "" ys).length = ys.length ∧ (ys.map (·.length)).sum = ys.length := by
  have e1 : (Txt.join "" ys).length = (cs (Txt.join "" ys)).length := by simp [cs, Str.length]
  have e2 := cs_joinE ys
  have key : (∀ c ∈ (ys.map cs).flatten, c ∈ signs) ∧ (ys.map cs).flatten.length = ys.length ∧ (ys.map (·.length)).sum = ys.length := by
    clear e1 e2
    induction ys with
    | nil => exact ⟨(fun _ z => nomatch z), rfl, rfl⟩
    | cons y r ih =>
      obtain ⟨c, hc, rfl⟩ := h y List.mem_cons_self
      obtain ⟨a, b, d⟩ := ih fun z hz => h z (List.mem_cons_of_mem _ hz)
      refine ⟨fun x hx => ?_, ?_, ?_⟩
      · rcases List.mem_cons.mp (show x ∈ c :: (r.map cs).flatten from hx) with rfl | hx
        · exact hc
        · exact a x hx
      · show (c :: (r.map cs).flatten).length = _
        rw [List.length_cons, b, List.length_cons]
      · rw [List.map_cons, List.sum_cons, d, List.length_cons]
        show 1 + r.length = _
        omega
  refine ⟨fun c hc => key.1 c (by rw [← e2]; exact hc), ?_, key.2.2⟩
  rw [e1, e2]
  exact key.2.1
abbrev sSt : Stmt := top 36
theorem scSt : FnScope ["_law_source_here", "_law_signs", "_law_many", "_law_turn"] ["_law_source_here"] (defScope sSt) := ⟨rfl, rfl, rfl, by decide +kernel, rfl, by decide +kernel, by decide +kernel⟩
def spSt : Sp := fun vs H Q _ => ∃ S : Addr, vs = [.ref S] ∧ Src H S ∧ ∀ H' z, Ev S H H' → okS z → z.length ≤ 5 → Q (.str z) H'
section
variable {P : Program} {w : World} {K : PySem.W.Frag} {mg : Str → Option Value} {base : Heap} {f fp : Addr} {fd fpd : FuncData}
theorem ok_st (F : Df K mg "_law_string" sSt ["_law_source_here"] f fd) (B : Bi mg) (P' : Df K mg "_law_pick" sPk ["_law_source_here", "_law_amount"] fp fpd) (GP : FnOk P w K mg base CX0 1 fp fpd ["_law_source_here", "_law_amount"] spPk) :
    FnOk P w K mg base CX0 2 f fd ["_law_source_here"] spSt := by
  refine F.fn.ok scSt (fun vs H Q E h => ?_) (fun cdv A outer s H vs Q E hr h => ?_)
  · obtain ⟨S, rfl, _⟩ := h
    rfl
  · obtain ⟨S, rfl, hS, q⟩ := h
    refine ⟨_, pss_cons (ps_asg (pe_tup (pa_cons pe_str (pa_cons (pe_call GP hr rfl P'.m P'.fn.kp P'.b .nil pass0 (pa_cons (pv 0) (pa_cons pe_int pa_nil))) pa_nil))) (pg_tup rfl (pgs_cons (pg_name (i := 1) scSt.nd rfl (Or.inr rfl)) (pgs_cons (pg_name (i := 2) scSt.nd rfl (Or.inl rfl)) pgs_nil))))
      (pss_one (ps_ret (pe_join pe_str (pe_lc (own := [("_law_turn", 3)]) (g := gName 3) (tt := tYes) rfl scSt.nd (pi_range1 (by rfl) B.range (pa_cons (pv 2) pa_nil)) (blkOk_by (N := ["_law_source_here", "_law_signs", "_law_many", "_law_turn"]) (sc := defScope sSt) (by decide +kernel))
          (fun _ _ _ _ _ => pg_name (i := 3) scSt.nd rfl (Or.inl rfl)) (fun _ _ _ _ _ => pts_nil) (fun _ _ _ _ _ => pe_ix ix_str (pv 1) (pe_call GP hr rfl P'.m P'.fn.kp P'.b .nil pass0 (pa_cons (pv 0) (pa_cons pe_int pa_nil))) (fun _ _ => rfl)))))), ?_⟩
    refine ⟨_, rfl, S, 6, rfl, by decide, by decide, hS, fun c x y h0 h1 => ⟨l2_line, fun t ht => ?_⟩⟩
    have e1 : Ev S H (upd H S (.lst [.int x, .int y])) := ev_src
    have e2 := e1.trans (ev_new (o := .tup [.str sigT, .int c]) e1.src ht)
    refine ⟨t, _, rfl, SqT.of upd_same, rfl, _, _, rfl, _, _, rfl, rfl, ?_⟩
    generalize upd (upd H S (.lst [.int x, .int y])) t _ = H2 at e2 ⊢
    clear e1 ht
    refine ⟨⟨_, rfl⟩, _, rfl, _, rfl, by omega, by omega, fun D hD => ?_⟩
    refine lcS_gen gen_range hD e2.src (fun _ _ => trivial) (fun _ _ y => ∃ c, c ∈ signs ∧ y = V.str ⟨#[c]⟩) (fun _ => true) (fun _ _ _ _ _ h => h) (by omega) ?_ ?_
    · rintro i x2 H3 acc Nx hi _ e3 hacc _ nx
      refine ⟨rfl, ifT (B := Nx H3) rfl ?_⟩
      refine ⟨_, rfl, _, rfl, S, 11, rfl, by decide, by decide, e3.src, fun c2 x3 y3 h2 h3 => ?_⟩
      obtain ⟨d, hd, hat⟩ := sigT_at h2 h3
      refine ⟨sigT, _, d, rfl, rfl, by decide +kernel, hat, ?_⟩
      exact nx _ _ ev_src rfl ⟨d, hd, rfl⟩
    · intro H3 acc e3 hD3 out
      obtain ⟨ys, rfl, hl, hy⟩ := chars_of out
      obtain ⟨j1, j2, j3⟩ := joined_ok hy
      refine ⟨_, D, ys, rfl, rfl, .inl (SqL.of hD3), ?_, q H3 _ (e2.trans e3) j1 ?_⟩
      · rw [j3]
        show ys.length + ys.length * 0 ≤ _
        omega
      · rw [j2]
        omega
end
end Mw

end

section
set_option Elab.async false
set_option linter.all false
set_option maxRecDepth 100000
set_option maxHeartbeats 8000000
/-! _law_value. -/
namespace Mw
open PySem PySem.Spec PyProof.Rows L2
/-- dict(pairs), any keys -/
def putAll (m0 m : Mp) : Mp := m.foldl (fun a p => putM a p.1 p.2) m0
theorem kvd_puts {H : Hp} {n : Nat} {ks : List (Key × V)} {m : Mp} (h : KvD H n ks m) : ∀ {acc : List (Key × V)} {m0 : Mp}, KvD H n acc m0 → KvD H n (mergeK acc ks) (putAll m0 m) := by
  induction h with
  | nil => exact fun h0 => h0
  | cons q _ ih =>
    rename_i p x ks m t
    intro acc m0 h0
    have h1 := h0.put (k := x.1) q.2
    rw [← q.1] at h1
    exact ih h1
structure OkV (n : Nat) (m : Mp) : Prop where
  nd : (keys m).Nodup
  len : m.length ≤ n
  all : ∀ p ∈ m, okS p.1 ∧ p.1.length ≤ 5 ∧ gd 0 p.2
theorem okV_puts : ∀ {m m0 : Mp} {a b : Nat}, OkV a m0 → m.length ≤ b → (∀ p ∈ m, okS p.1 ∧ p.1.length ≤ 5 ∧ gd 0 p.2) → OkV (a + b) (putAll m0 m)
  | [], m0, a, b, h, _, _ => ⟨h.nd, by have := h.len; show m0.length ≤ _; omega, h.all⟩
  | p :: r, m0, a, b, h, hl, hm => by
    have h1 : OkV (a + 1) (putM m0 p.1 p.2) := ⟨nd_put _ _ h.nd, by have := len_put m0 p.1 p.2; have := h.len; omega, fun x hx => by
      rcases mem_put hx with z | z
      · exact h.all x z
      · rw [z]; exact hm p List.mem_cons_self⟩
    rw [List.length_cons] at hl
    have h2 := okV_puts h1 (b := b - 1) (by omega) fun x hx => hm x (List.mem_cons_of_mem _ hx)
    have e : a + 1 + (b - 1) = a + b := by omega
    rw [e] at h2
    exact h2
theorem okV_gd {n : Nat} {m : Mp} (h : OkV n m) (hn : n ≤ 40) : gd 1 (.dict (m.map fun q => (.str q.1, q.2))) := by
  refine ⟨by rw [List.length_map]; exact Nat.le_trans h.len hn, fun p hp => ?_, ?_⟩
  · obtain ⟨q, hq, rfl⟩ := List.mem_map.mp hp
    obtain ⟨a, b, c⟩ := h.all q hq
    exact ⟨⟨q.1, rfl, a, b⟩, c⟩
  · rw [List.map_map]
    have e : (m.map ((fun x : PyData × PyData => x.1) ∘ fun q => (PyData.str q.1, q.2))) = (keys m).map PyData.str := by
      unfold keys
      rw [List.map_map]
      rfl
    rw [e]
    exact nodup_map (fun a b e => PyData.str.inj e) h.nd
theorem gd_any {n : Nat} {d : PyData} (h : gd 0 d) : gd n d := by
  cases d with
  | list _ => exact False.elim h
  | tuple _ => exact False.elim h
  | dict _ => exact False.elim h
  | _ => cases n <;> exact h
theorem fr_upd_dom {H G : Hp} {S : Addr} {o : HO} (h : H S ≠ none) : fr (upd H S o) G = fr H G := by
  funext b
  unfold fr
  by_cases hb : b = S
  · subst hb
    rw [upd_same, if_neg h, if_neg (fun z => nomatch z)]
  · rw [upd_ne hb]
theorem fr_upd_old {H G : Hp} {S : Addr} {o : HO} (h : H S ≠ none) : fr H (upd G S o) = fr H G := by
  funext b
  unfold fr
  by_cases hb : b = S
  · subst hb
    rw [if_neg h, if_neg h]
  · rw [upd_ne hb]
theorem out_flat {n : Nat} {keep : Nat → Bool} {G : Hp} {acc : List V} (h : Out (fun _ _ y => ∃ d, atV d = some y ∧ gd 0 d) keep n G acc) : ∃ ds : List PyData, Paired (fun y d => atV d = some y ∧ gd 0 d) acc ds ∧ (∀ d ∈ ds, gd 0 d) ∧ ds.length ≤ n := by
  have hl := kp_len keep n
  unfold Out at h
  generalize kp keep n = l at h hl
  have key : ∃ ds : List PyData, Paired (fun y d => atV d = some y ∧ gd 0 d) acc ds ∧ (∀ d ∈ ds, gd 0 d) ∧ ds.length = l.length := by
    clear hl
    induction h with
    | nil => exact ⟨[], .nil, (fun _ z => nomatch z), rfl⟩
    | cons q _ ih =>
      obtain ⟨ds, a, b, c⟩ := ih
      obtain ⟨d, h1, h2⟩ := q
      refine ⟨d :: ds, .cons ⟨h1, h2⟩ a, fun x hx => ?_, by rw [List.length_cons, List.length_cons, c]⟩
      rcases List.mem_cons.mp hx with rfl | hx
      · exact h2
      · exact b x hx
  obtain ⟨ds, a, b, c⟩ := key
  exact ⟨ds, a, b, by omega⟩
theorem prs_of {G : Hp} {acc acc2 : List V} {ds : List PyData} (hpd : Paired (fun y d => atV d = some y ∧ gd 0 d) acc ds) (hgd : ∀ d ∈ ds, gd 0 d) (hal : acc2.length = acc.length)
    (hall : ∀ (i : Nat) (y : V), acc2[i]? = some y → ∃ (t : Addr) (k : Str) (v : V), y = V.ref t ∧ G t = some (.tup [.str k, v]) ∧ okS k ∧ k.length ≤ 5 ∧ acc[i]? = some v) :
    ∃ (ts : List Addr) (kvs : List (Key × V)) (m : Mp), acc2 = ts.map V.ref ∧ Paired (fun t kv => G t = some (.tup [kV kv.1, kv.2])) ts kvs ∧ (∀ H, KvD H 0 kvs m) ∧ m.length = ds.length ∧ ∀ p ∈ m, okS p.1 ∧ p.1.length ≤ 5 ∧ gd 0 p.2 := by
  induction hpd generalizing acc2 with
  | nil =>
    have e : acc2 = [] := List.length_eq_zero_iff.mp hal
    subst e
    exact ⟨[], [], [], rfl, .nil, fun _ => .nil, rfl, (fun _ z => nomatch z)⟩
  | cons q t ih =>
    rename_i v d vs ds
    cases acc2 with
    | nil => cases hal
    | cons y r =>
      obtain ⟨ts, kvs, m, e1, h1, h2, h3, h4⟩ := ih (acc2 := r) (fun x hx => hgd x (List.mem_cons_of_mem _ hx)) (by simpa using hal) fun i y' hy' => by
        obtain ⟨t, k, w, a, b, c, d', e⟩ := hall (i + 1) y' (by simpa using hy')
        exact ⟨t, k, w, a, b, c, d', by simpa using e⟩
      obtain ⟨t, k, w, rfl, b, ck, cl, ew⟩ := hall 0 y rfl
      cases (show v = w from Option.some.inj ew)
      refine ⟨t :: ts, (.inr k, v) :: kvs, (k, d) :: m, by rw [e1]; rfl, .cons b h1, fun H => .cons ⟨rfl, q.1⟩ (h2 H), by rw [List.length_cons, List.length_cons, h3], fun p hp => ?_⟩
      rcases List.mem_cons.mp hp with rfl | hp
      · exact ⟨ck, cl, q.2⟩
      · exact h4 p hp
abbrev sVa : Stmt := top 37
abbrev nVa : List Str := ["_law_source_here", "_law_depth", "_law_way", "_law_number", "_law_items", "_law_turn", "_law_item"]
theorem scVa : FnScope nVa ["_law_source_here", "_law_depth"] (defScope sVa) := ⟨rfl, rfl, rfl, by decide +kernel, rfl, by decide +kernel, by decide +kernel⟩
def spVa : Nat → Sp
  | 0 => fun _ _ _ _ => False
  | n + 1 => fun vs H Q _ => ∃ S : Addr, vs = [.ref S, .int n] ∧ n ≤ 1 ∧ Src H S ∧ ∀ H' v d, Ev S H H' → IsD (fr H H') n v d → gd n d → Q v H'
section
variable {P : Program} {w : World} {K : PySem.W.Frag} {mg : Str → Option Value} {base : Heap} {f fp fs : Addr} {fd fpd fsd : FuncData}
theorem va_tail {n : Nat} (F : Df K mg "_law_value" sVa ["_law_source_here", "_law_depth"] f fd) (B : Bi mg) (P' : Df K mg "_law_pick" sPk ["_law_source_here", "_law_amount"] fp fpd) (S' : Df K mg "_law_string" sSt ["_law_source_here"] fs fsd)
    (GP : FnOk P w K mg base CX0 1 fp fpd ["_law_source_here", "_law_amount"] spPk) (GS : FnOk P w K mg base CX0 2 fs fsd ["_law_source_here"] spSt) (GV : FnOk P w K mg base CX0 (n + 2) f fd ["_law_source_here", "_law_depth"] (spVa n))
    {cdv : Value} {A : Around} {outer : List Env} {s : Shared} {H0 : Hp} {E : XK} (hr : Room (n + 2) (A.deeper (envOfC "_law_value" (defScope sVa) s.heap.objs.size f cdv))) :
    ∃ t, PSs (cxOf CX0 P w K mg base nVa "_law_value" (defScope sVa) f cdv A outer s H0 E).nox ((defBody sVa).drop 1) t ∧ ∀ (D : Ends) (H : Hp) (S : Addr) (c : Int) (x3 x4 x5 x6 : Option V), 0 ≤ c → c < 9 → (n = 0 → c < 5) → n ≤ 1 → Src H S →
      (∀ H' v d, Ev S H H' → IsD (fr H H') n v d → gd n d → D.rt v H') → t D [some (.ref S), some (.int n), some (.int c), x3, x4, x5, x6] H := by
  have hr1 := hr.mono (by omega : 1 ≤ n + 2)
  have hr2 := hr.mono (by omega : 2 ≤ n + 2)
  refine ⟨_, pss_cons (ps_if (pt_cmpR op_lt (pv 2) pe_int (nomark _)) (pss_one (ps_ret (pe_ix ix_list (pe_lst (pa_cons pe_non (pa_cons pe_bl (pa_cons pe_bl pa_nil)))) (pe_call GP hr1 rfl P'.m P'.fn.kp P'.b .nil pass0 (pa_cons (pv 0) (pa_cons pe_int pa_nil))) (fun _ _ => rfl)))) pss_nil)
      (pss_cons (ps_if (pt_cmpR op_lt (pv 2) pe_int (nomark _))
        (pss_cons (ps_set (i := 3) scVa.nd rfl (Or.inl rfl) (pe_call GP hr1 rfl P'.m P'.fn.kp P'.b .nil pass0 (pa_cons (pv 0) (pa_cons (pe_ix ix_list (pe_lst (pa_cons pe_int (pa_cons pe_int (pa_cons pe_int pa_nil)))) (pe_call GP hr1 rfl P'.m P'.fn.kp P'.b .nil pass0 (pa_cons (pv 0) (pa_cons pe_int pa_nil))) (fun _ _ => rfl)) pa_nil))))
          (pss_one (ps_ret (pe_ifExp (pt_cmpR op_eq (pe_call GP hr1 rfl P'.m P'.fn.kp P'.b .nil pass0 (pa_cons (pv 0) (pa_cons pe_int pa_nil))) pe_int (nomark _)) (pv 3) (pe_op op_sub pe_int (pv 3)))))) pss_nil)
      (pss_cons (ps_if (pt_cmpR op_eq (pv 2) pe_int (nomark _)) (pss_one (ps_ret (pe_call GS hr2 rfl S'.m S'.fn.kp S'.b .nil pass0 (pa_cons (pv 0) pa_nil)))) pss_nil)
      (pss_cons (ps_setLc (i := 4) (own := [("_law_turn", 5)]) (g := gName 5) (tt := tYes) rfl scVa.nd rfl rfl (sw_true rfl rfl rfl (by decide +kernel)) (pi_range1 (by rfl) B.range (pa_cons (pe_call GP hr1 rfl P'.m P'.fn.kp P'.b .nil pass0 (pa_cons (pv 0) (pa_cons pe_int pa_nil))) pa_nil)) (blkOk_by (N := nVa) (sc := defScope sVa) (by decide +kernel))
          (fun _ _ _ _ _ => pg_name (i := 5) scVa.nd rfl (Or.inl rfl)) (fun _ _ _ _ _ => pts_nil) (fun _ _ _ _ _ => pe_call GV hr rfl F.m F.fn.kp F.b .nil pass0 (pa_cons (pv 0) (pa_cons (pe_op op_sub (pv 1) pe_int) pa_nil))))
      (pss_cons (ps_if (pt_cmpR op_lt (pv 2) pe_int (nomark _)) (pss_one (ps_ret (pe_ifExp (pt_cmpR op_eq (pv 2) pe_int (nomark _)) (pv 4) (pe_callTy call_tuple_of (by rfl) B.tuple (by decide +kernel) (pa_cons (pv 4) pa_nil))))) pss_nil)
      (pss_one (ps_ret (pe_callTy (call_dictP rfl) (by rfl) B.dict (by decide +kernel) (pa_cons (pe_lc (own := [("_law_item", 6)]) (g := gName 6) (tt := tYes) rfl scVa.nd (pi_list (pv 4)) (blkOk_by (N := nVa) (sc := defScope sVa) (by decide +kernel))
          (fun _ _ _ _ _ => pg_name (i := 6) scVa.nd rfl (Or.inl rfl)) (fun _ _ _ _ _ => pts_nil) (fun _ _ _ _ _ => pe_tup (pa_cons (pe_call GS hr2 rfl S'.m S'.fn.kp S'.b .nil pass0 (pa_cons (pv 0) pa_nil)) (pa_cons (pv 6) pa_nil)))) pa_nil)))))))), ?_⟩
  intro D H S c x3 x4 x5 x6 h0 h9 h5 hn hS q
  obtain ⟨sx, sy, hSe⟩ := id hS
  refine ⟨_, rfl, _, _, rfl, rfl, _, rfl, ?_⟩
  by_cases c2 : c < 2
  · refine ifT (decide_eq_true c2) ⟨l3_line, fun l hl => ?_⟩
    have e1 : Ev S H (upd H l (.lst [.non, .bl true, .bl false])) := ev_new hS hl
    have hlS : l ≠ S := hS.ne hl
    refine ⟨_, rfl, S, 3, rfl, by decide, by decide, e1.src, fun d x y d0 d3 => ?_⟩
    have e2 := e1.trans (ev_src (x := x) (y := y))
    have hl2 := (ev_src (S := S) (H := upd H l (.lst [.non, .bl true, .bl false])) (x := x) (y := y)).at hlS upd_same
    have hd : d = 0 ∨ d = 1 ∨ d = 2 := by omega
    rcases hd with rfl | rfl | rfl
    · exact ⟨l, _, _, _, rfl, rfl, SqL.of hl2, atI_nat (j := 0) rfl, q _ _ .none e2 (IsD.flat rfl) (gd_any trivial)⟩
    · exact ⟨l, _, _, _, rfl, rfl, SqL.of hl2, atI_nat (j := 1) rfl, q _ _ (.bool true) e2 (IsD.flat rfl) (gd_any trivial)⟩
    · exact ⟨l, _, _, _, rfl, rfl, SqL.of hl2, atI_nat (j := 2) rfl, q _ _ (.bool false) e2 (IsD.flat rfl) (gd_any trivial)⟩
  refine ifF (decide_eq_false c2) ?_
  refine ⟨_, rfl, _, _, rfl, rfl, _, rfl, ?_⟩
  by_cases c4 : c < 4
  · refine ifT (decide_eq_true c4) ?_
    refine ⟨_, rfl, l3_line, fun l hl => ?_⟩
    have e1 : Ev S H (upd H l (.lst [.int 2, .int 1000, .int 1000000000000000000])) := ev_new hS hl
    have hlS : l ≠ S := hS.ne hl
    refine ⟨_, rfl, S, 3, rfl, by decide, by decide, e1.src, fun d x y d0 d3 => ?_⟩
    have e2 := e1.trans (ev_src (x := x) (y := y))
    have hl2 := (ev_src (S := S) (H := upd H l (.lst [.int 2, .int 1000, .int 1000000000000000000])) (x := x) (y := y)).at hlS upd_same
    obtain ⟨m, m0, m18, hat⟩ : ∃ m : Int, 0 < m ∧ m ≤ 10 ^ 18 ∧ atI [V.int 2, V.int 1000, V.int 1000000000000000000] d = some (.int m) := by
      have hd : d = 0 ∨ d = 1 ∨ d = 2 := by omega
      rcases hd with rfl | rfl | rfl
      · exact ⟨2, by decide, by decide, atI_nat (j := 0) rfl⟩
      · exact ⟨1000, by decide, by decide, atI_nat (j := 1) rfl⟩
      · exact ⟨1000000000000000000, by decide, by decide, atI_nat (j := 2) rfl⟩
    refine ⟨l, _, _, _, rfl, rfl, SqL.of hl2, hat, S, m, rfl, m0, m18, e2.src, fun k x2 y2 k0 km => ?_⟩
    have e3 := e2.trans (ev_src (x := x2) (y := y2))
    have gk : k.natAbs < 10 ^ 18 := by omega
    refine ⟨_, rfl, S, 2, rfl, by decide, by decide, e3.src, fun z x3' y3' z0 z2 => ⟨rfl, _, rfl, ?_⟩⟩
    have e4 := e3.trans (ev_src (x := x3') (y := y3'))
    by_cases hz : z = 0
    · exact ifT (decide_eq_true (by rw [hz])) ⟨_, rfl, q _ _ (.int k) e4 (IsD.flat rfl) (gd_any gk)⟩
    · exact ifF (decide_eq_false fun w => hz (V.int.inj w)) ⟨_, rfl, _, _, rfl, rfl, q _ _ (.int (0 - k)) e4 (IsD.flat rfl) (gd_any (by show (0 - k).natAbs < 10 ^ 18; omega))⟩
  refine ifF (decide_eq_false c4) ?_
  refine ⟨_, rfl, rfl, _, rfl, ?_⟩
  by_cases c44 : c = 4
  · exact ifT (decide_eq_true (by rw [c44])) ⟨_, rfl, S, rfl, hS, fun H' z e hz hl => q _ _ (.str z) e (IsD.flat rfl) (gd_any ⟨hz, hl⟩)⟩
  refine ifF (decide_eq_false fun w => c44 (V.int.inj w)) ?_
  have n1 : n = 1 := by omega
  subst n1
  refine ⟨_, rfl, S, 4, rfl, by decide, by decide, hS, fun k x y k0 k4 => ⟨_, rfl, by omega, by omega, fun D2 hD2 => ?_⟩⟩
  have e1 : Ev S H (upd H S (.lst [.int x, .int y])) := ev_src
  refine lcS_gen gen_range hD2 e1.src (fun _ _ => trivial) (fun _ _ y => ∃ d, atV d = some y ∧ gd 0 d) (fun _ => true) (fun _ _ _ _ _ h => h) (by omega) ?_ ?_
  · rintro i x2 H3 acc Nx hi _ e3 hacc _ nx
    refine ⟨rfl, ifT (B := Nx H3) rfl ?_⟩
    exact ⟨_, rfl, _, rfl, _, _, rfl, rfl, S, rfl, by decide, e3.src, fun H' v d e hd g => nx v H' e rfl ⟨d, hd, g⟩⟩
  intro H3 acc e3 hD3 out
  obtain ⟨ds, hpd, hgd, hdl⟩ := out_flat out
  have hlen : acc.length = ds.length := Paired.length hpd
  have e13 := e1.trans e3
  have hDS : D2 ≠ S := e1.src.ne hD2
  have hD2n : H D2 = none := e1.free hS hD2
  refine ⟨_, rfl, _, _, rfl, rfl, _, rfl, ?_⟩
  by_cases c7 : c < 7
  · refine ifT (decide_eq_true c7) ⟨_, rfl, rfl, _, rfl, ?_⟩
    by_cases c5 : c = 5
    · refine ifT (decide_eq_true (by rw [c5])) ⟨_, rfl, q H3 _ (.list ds) e13 (.inr (.inl ⟨D2, acc, ds, rfl, rfl, by rw [fr_new hD2n]; exact hD3, Paired.mapP hpd fun _ _ h => h.1⟩)) ⟨by omega, hgd⟩⟩
    · refine ifF (decide_eq_false fun w => c5 (V.int.inj w)) ⟨_, rfl, D2, _, rfl, .inl ⟨SqL.of hD3, fun t ht => ?_⟩⟩
      have e4 := e13.trans (ev_new (o := .tup acc) e13.src ht)
      exact q _ _ (.tuple ds) e4 (.inr (.inr (.inl ⟨t, acc, ds, rfl, rfl, by rw [fr_new (e13.free hS ht), upd_same], Paired.mapP hpd fun _ _ h => h.1⟩))) ⟨by omega, hgd⟩
  refine ifF (decide_eq_false c7) ?_
  refine ⟨_, rfl, D2, rfl, ⟨_, SqL.of hD3⟩, fun D3 hD33 => ?_⟩
  refine lcS_gen gen_list hD33 e3.src (fun H e => SqL.of (e.at hDS hD3)) (fun i G y => ∃ t k v, y = V.ref t ∧ G t = some (.tup [.str k, v]) ∧ okS k ∧ k.length ≤ 5 ∧ acc[i]? = some v) (fun _ => true)
    (fun i G G' y s' ⟨t, k, v, a, b, c⟩ => ⟨t, k, v, a, s'.tup _ _ b, c⟩) (by omega) ?_ ?_
  · rintro i x2 H4 acc2 Nx hi hx2 e4 hacc2 _ nx
    refine ⟨rfl, ifT (B := Nx H4) rfl ?_⟩
    refine ⟨_, rfl, S, rfl, e4.src, fun H5 z e5 hz hzl => ⟨_, rfl, l2_line, fun t ht => ?_⟩⟩
    have hacc5 := e5.at (e3.src.ne hD33) hacc2
    exact nx (.ref t) _ (e5.trans (ev_new e5.src ht)) rfl ⟨t, z, x2, rfl, by rw [hid_ne (e5.src.ne ht), hid_ne (ne_of_none hacc5 ht).symm, upd_same], hz, hzl, hx2⟩
  intro H4 acc2 e4 hD4 out2
  obtain ⟨hal, hall⟩ := out_all out2
  obtain ⟨ts, kvs, m, rfl, hk1, hk2, hm1, hm2⟩ := prs_of hpd hgd hal hall
  have e14 := e13.trans e4
  refine ⟨D3, ts, kvs, rfl, SqL.of hD4, Paired.mapP hk1 fun t kv h => SqT.of ?_, fun p hp => ?_⟩
  · have hb : t ≠ S := fun z => by rw [z, hid_same] at h; cases h
    rw [hid_ne hb] at h
    have hb2 : t ≠ D3 := fun z => by rw [z, hid_same] at h; cases h
    rw [hid_ne hb2] at h
    exact h
  have e5 := e14.trans (ev_new (o := .dK (mergeK [] kvs)) e14.src hp)
  have hv := okV_puts (m0 := []) (a := 0) (b := 3) ⟨.nil, by decide, fun _ z => nomatch z⟩ (m := m) (by omega) hm2
  refine q _ _ (.dict ((putAll [] m).map fun q => (.str q.1, q.2))) e5 (.inr (.inr (.inr ⟨p, _, _, rfl, rfl, .inl (by rw [fr_new (e14.free hS hp), upd_same]), ?_⟩))) (okV_gd hv (by decide))
  exact kvd_puts (n := 0) (hk2 _) .nil
theorem ok_va1 {n : Nat} (F : Df K mg "_law_value" sVa ["_law_source_here", "_law_depth"] f fd) (B : Bi mg) (P' : Df K mg "_law_pick" sPk ["_law_source_here", "_law_amount"] fp fpd) (S' : Df K mg "_law_string" sSt ["_law_source_here"] fs fsd)
    (GP : FnOk P w K mg base CX0 1 fp fpd ["_law_source_here", "_law_amount"] spPk) (GS : FnOk P w K mg base CX0 2 fs fsd ["_law_source_here"] spSt) (GV : FnOk P w K mg base CX0 (n + 2) f fd ["_law_source_here", "_law_depth"] (spVa n)) :
    FnOk P w K mg base CX0 (n + 3) f fd ["_law_source_here", "_law_depth"] (spVa (n + 1)) := by
  refine F.fn.ok scVa (fun vs H Q E h => ?_) (fun cdv A outer s H vs Q E hr h => ?_)
  · obtain ⟨S, rfl, _⟩ := h
    rfl
  · obtain ⟨S, rfl, hn, hS, q⟩ := h
    obtain ⟨x0, y0, hS0⟩ := id hS
    have hr1 := hr.mono (by omega : 1 ≤ n + 2)
    have hr2 := hr.mono (by omega : 2 ≤ n + 2)
    obtain ⟨tt, htt, htail⟩ := va_tail F B P' S' GP GS GV (outer := outer) (s := s) (H0 := H) (E := E) hr
    refine ⟨_, pss_cons (ps_set (i := 2) scVa.nd rfl (Or.inl rfl) (pe_ifExp (pt_cmpR op_gt (pv 1) pe_int (nomark _)) (pe_call GP hr1 rfl P'.m P'.fn.kp P'.b .nil pass0 (pa_cons (pv 0) (pa_cons pe_int pa_nil))) (pe_call GP hr1 rfl P'.m P'.fn.kp P'.b .nil pass0 (pa_cons (pv 0) (pa_cons pe_int pa_nil)))))
      htt, ?_⟩
    have fin : ∀ c x y : Int, 0 ≤ c → c < 9 → (n = 0 → c < 5) → tt { nx := fun _ H' => Q .non H', rt := Q } [some (.ref S), some (.int n), some (.int c), none, none, none, none] (upd H S (.lst [.int x, .int y])) := fun c x y h0 h9 h5 =>
      htail _ _ S c _ _ _ _ h0 h9 h5 hn ⟨x, y, upd_same⟩ fun H' v d e hd g => q H' v d (ev_src.trans e) (by rw [fr_upd_dom (by rw [hS0]; exact fun z => nomatch z)] at hd; exact hd) g
    refine ⟨_, rfl, _, _, rfl, rfl, _, rfl, ?_⟩
    by_cases hz : (0 : Int) < (n : Int)
    · refine ifT (decide_eq_true hz) ⟨_, rfl, S, 9, rfl, by decide, by decide, hS, fun c x y h0 h9 => ?_⟩
      exact fin c x y h0 h9 fun e => by omega
    · refine ifF (decide_eq_false hz) ⟨_, rfl, S, 5, rfl, by decide, by decide, hS, fun c x y h0 h5 => ?_⟩
      exact fin c x y h0 (by omega) fun _ => h5
theorem none_va {k : Nat} : FnOk P w K mg base CX0 k f fd ["_law_source_here", "_law_depth"] (spVa 0) :=
  ⟨fun _ _ _ _ h => False.elim h, fun _ _ _ _ _ _ _ _ _ _ _ _ _ h => False.elim h⟩
theorem ok_va (F : Df K mg "_law_value" sVa ["_law_source_here", "_law_depth"] f fd) (B : Bi mg) (P' : Df K mg "_law_pick" sPk ["_law_source_here", "_law_amount"] fp fpd) (S' : Df K mg "_law_string" sSt ["_law_source_here"] fs fsd)
    (GP : FnOk P w K mg base CX0 1 fp fpd ["_law_source_here", "_law_amount"] spPk) (GS : FnOk P w K mg base CX0 2 fs fsd ["_law_source_here"] spSt) : FnOk P w K mg base CX0 4 f fd ["_law_source_here", "_law_depth"] (spVa 2) :=
  ok_va1 (n := 1) F B P' S' GP GS (ok_va1 (n := 0) F B P' S' GP GS none_va)
end
end Mw

end

section
set_option Elab.async false
set_option linter.all false
set_option maxRecDepth 100000
set_option maxHeartbeats 8000000
/-! _law_mapping, _law_deeds. -/
namespace Mw
open PySem PySem.Spec PyProof.Rows L2
abbrev sixK : List Str := ["a", "b", "c", "a b", "\n", "k"]
theorem sixK_ok : ∀ k ∈ sixK, okK k := by
  have h : ∀ k ∈ sixK, (cs k).all (fun c => decide (c ∈ signs)) = true ∧ 1 ≤ k.length ∧ k.length ≤ 5 := by decide +kernel
  intro k hk
  obtain ⟨a, b, c⟩ := h k hk
  exact ⟨fun x hx => of_decide_eq_true (List.all_eq_true.mp a x hx), b, c⟩
theorem sixK_nd : sixK.Nodup := by decide +kernel
abbrev sixV : List V := [.str "a", .str "b", .str "c", .str "a b", .str "\n", .str "k"]
theorem six_map : sixV = sixK.map V.str := rfl
theorem erase_map {α β : Type} (f : α → β) : ∀ (l : List α) (j : Nat), (l.map f).eraseIdx j = (l.eraseIdx j).map f
  | [], _ => rfl
  | _ :: _, 0 => rfl
  | x :: r, j + 1 => by
    show f x :: (r.map f).eraseIdx j = f x :: (r.eraseIdx j).map f
    rw [erase_map f r j]
theorem erase_no : ∀ {l : List Str} {j : Nat}, l.Nodup → ∀ (h : j < l.length), l[j] ∉ l.eraseIdx j
  | x :: r, 0, nd, _ => (List.nodup_cons.mp nd).1
  | x :: r, j + 1, nd, h => fun z => by
    obtain ⟨n1, n2⟩ := List.nodup_cons.mp nd
    have hj : j < r.length := by simpa using h
    have z' : r[j] ∈ x :: r.eraseIdx j := z
    rcases List.mem_cons.mp z' with e | e
    · exact n1 (by rw [← e]; exact List.getElem_mem hj)
    · exact erase_no n2 hj e
/-- the fresh part, as the run goes on -/
theorem fr_step {S : Addr} {H1 G G' : Hp} (dm : Dm H1 G) (hS : H1 S ≠ none) (e : Ev S G G') : Same (fr H1 G) (fr H1 G') := fun b o h => by
  unfold fr at h ⊢
  by_cases hb : H1 b = none
  · rw [if_pos hb] at h ⊢
    exact e.at (fun z => hS (by rw [← z]; exact hb)) h
  · rw [if_neg hb] at h; cases h
theorem fr_in {H1 G G' : Hp} (dm : Dm H1 G) : Same (fr G G') (fr H1 G') := fun b o h => by
  unfold fr at h ⊢
  by_cases hb : G b = none
  · rw [if_pos hb] at h
    rw [if_pos (dm b hb)]
    exact h
  · rw [if_neg hb] at h; cases h
theorem dm_ev {S : Addr} {H1 G G' : Hp} (dm : Dm H1 G) (hS : Src G S) (e : Ev S G G') : Dm H1 G' := fun b hb => dm b (e.free hS hb)
theorem dm_upd {H1 G : Hp} {b : Addr} {o : HO} (dm : Dm H1 G) : Dm H1 (upd G b o) := fun c hc => by
  by_cases hb : c = b
  · rw [hb, upd_same] at hc; cases hc
  · rw [upd_ne hb] at hc; exact dm c hc
theorem Src.some {S : Addr} {H : Hp} (h : Src H S) : H S ≠ none := fun z => by
  obtain ⟨x, y, e⟩ := h
  rw [z] at e; cases e
theorem Src.upd {S : Addr} {H : Hp} {b : Addr} {o : HO} (h : Src H S) (hb : b ≠ S) : Src (L2.upd H b o) S := by
  obtain ⟨x, y, e⟩ := h
  exact ⟨x, y, by rw [upd_ne (Ne.symm hb)]; exact e⟩
theorem ev_upd {S : Addr} {H0 H : Hp} {b : Addr} {o : HO} (e : Ev S H0 H) (hb : b ≠ S) (h0 : H0 b = none) : Ev S H0 (upd H b o) :=
  ⟨fun c u h => by
    have hc := e.same c u h
    have hcS : c ≠ S := fun z => by rw [z, hid_same] at h; cases h
    rw [hid_ne hcS] at h hc ⊢
    rw [upd_ne (ne_of_none h h0)]
    exact hc, e.src.upd hb⟩
theorem fr_up_new {HB G : Hp} {t : Addr} {o : HO} (ht : G t = none) : Same (fr HB G) (fr HB (upd G t o)) := fun b u h => by
  unfold fr at h ⊢
  by_cases hb : HB b = none
  · rw [if_pos hb] at h ⊢
    rw [upd_ne (ne_of_none h ht)]
    exact h
  · rw [if_neg hb] at h; cases h
theorem e1_free {S F : Addr} {H HB : Hp} (_ : Ev S H HB) (_ : Src H S) (h : H F = none) : H F = none := h
abbrev sMa : Stmt := top 38
abbrev nMa : List Str := ["_law_source_here", "_law_most", "_law_left", "_law_found", "_law_turn"]
theorem scMa : FnScope nMa ["_law_source_here", "_law_most"] (defScope sMa) := ⟨rfl, rfl, rfl, by decide +kernel, rfl, by decide +kernel, by decide +kernel⟩
def spMa : Sp := fun vs H Q _ => ∃ S : Addr, vs = [.ref S, .int 5] ∧ Src H S ∧ ∀ H' r m, Ev S H H' → MapAt (fr H H') r m → OkM 5 m → H' r ≠ none → Q (.ref r) H'
abbrev sDe : Stmt := top 39
abbrev nDe : List Str := ["_law_source_here", "_law_most", "_law_found", "_law_turn", "_law_key"]
theorem scDe : FnScope nDe ["_law_source_here", "_law_most"] (defScope sDe) := ⟨rfl, rfl, rfl, by decide +kernel, rfl, by decide +kernel, by decide +kernel⟩
def spDe : Sp := fun vs H Q _ => ∃ S : Addr, vs = [.ref S, .int 3] ∧ Src H S ∧ ∀ H' p ts ds, Ev S H H' → H p = none → H' p = some (.lst (ts.map V.ref)) → Paired (DeedAt (fr H H')) ts ds → ds.length ≤ 3 → Q (.ref p) H'
section
variable {P : Program} {w : World} {K : PySem.W.Frag} {mg : Str → Option Value} {base : Heap} {f fp fv : Addr} {fd fpd fvd : FuncData}
theorem ok_ma (F : Df K mg "_law_mapping" sMa ["_law_source_here", "_law_most"] f fd) (B : Bi mg) (P' : Df K mg "_law_pick" sPk ["_law_source_here", "_law_amount"] fp fpd) (V' : Df K mg "_law_value" sVa ["_law_source_here", "_law_depth"] fv fvd)
    (GP : FnOk P w K mg base CX0 1 fp fpd ["_law_source_here", "_law_amount"] spPk) (GV : FnOk P w K mg base CX0 4 fv fvd ["_law_source_here", "_law_depth"] (spVa 2)) : FnOk P w K mg base CX0 5 f fd ["_law_source_here", "_law_most"] spMa := by
  refine F.fn.ok scMa (fun vs H Q E h => ?_) (fun cdv A outer s H vs Q E hr h => ?_)
  · obtain ⟨S, rfl, _⟩ := h
    rfl
  · obtain ⟨S, rfl, hS, q⟩ := h
    have hu := hu_of hr
    have hr1 := hr.mono (by decide : 1 ≤ 4)
    refine ⟨_, pss_cons (ps_par (i := 2) (j := 3) rfl scMa.nd rfl rfl (by decide) rfl rfl (pa_cons (pe_lst (pa_cons pe_str (pa_cons pe_str (pa_cons pe_str (pa_cons pe_str (pa_cons pe_str (pa_cons pe_str pa_nil))))))) (pa_cons pe_dnewK pa_nil)) rfl)
      (pss_cons (ps_for PassesOwn.never rfl (pi_range1 (by rfl) B.range (pa_cons (pe_call GP hr1 rfl P'.m P'.fn.kp P'.b .nil pass0 (pa_cons (pv 0) (pa_cons (pe_op op_add (pv 1) pe_int) pa_nil))) pa_nil)) (pg_name (i := 4) scMa.nd rfl (Or.inl rfl))
        (pss_one (ps_dput hu (pv 3) (pe_bm PySem.F.plainAttrs_list PySem.F.slot_list_pop PySem.F.type_list_pop mt_popAt (pv 2) (pa_cons (pe_call GP hr1 rfl P'.m P'.fn.kp P'.b .nil pass0 (pa_cons (pv 0) (pa_cons (pe_callB call_len_seq (by rfl) B.len PySem.boot_len (pa_cons (pv 2) pa_nil)) pa_nil))) pa_nil))
          (pe_call GV hr rfl V'.m V'.fn.kp V'.b .nil pass0 (pa_cons (pv 0) (pa_cons pe_int pa_nil))) rfl)))
      (pss_one (ps_ret (pv 3)))), ?_⟩
    refine ⟨by show 6 ≤ sizeLine; exact le_line (by decide), fun L hL F hF => ⟨_, _, rfl, ?_⟩⟩
    have hLS : L ≠ S := hS.ne hL
    have e1 : Ev S H (upd H L (.lst sixV)) := ev_new hS hL
    have hFS : F ≠ S := e1.src.ne hF
    have hFL : F ≠ L := fun z => by rw [z] at hF; rw [show upd H L _ L = some _ from upd_same] at hF; cases hF
    have hFn : H F = none := e1.free hS hF
    have e2 := e1.trans (ev_new (o := .dK []) e1.src hF)
    have hL2 : upd (upd H L (.lst sixV)) F (.dK []) L = some (.lst sixV) := by rw [upd_ne (Ne.symm hFL)]; exact upd_same
    have hF2 : upd (upd H L (.lst sixV)) F (.dK []) F = some (.dK []) := upd_same
    refine ⟨_, rfl, _, rfl, _, _, rfl, rfl, S, 6, rfl, by decide, by decide, e2.src, fun n x y n0 n6 => ⟨n, rfl, by omega, by omega, ?_⟩⟩
    have e3 := e2.trans (ev_src (x := x) (y := y))
    generalize upd (upd H L (.lst sixV)) F (.dK []) = HB at e2 hL2 hF2 e3 ⊢
    rw [six_map] at hL2
    have hHB : Dm H HB := dm_ev (fun _ z => z) hS e2
    have dmB : Dm HB (upd HB S (.lst [.int x, .int y])) := dm_upd fun _ z => z
    have hSB := e2.src.some
    refine for_range (fun i σ Hx => ∃ x4 ls ks m, σ = [some (.ref S), some (.int 5), some (.ref L), some (.ref F), x4] ∧ Ev S H Hx ∧ Dm HB Hx ∧ Hx L = some (.lst (ls.map V.str)) ∧ Hx F = some (.dK ks) ∧ KvD (fr HB Hx) 1 ks m ∧ OkM i m ∧ ls.length + i = 6 ∧ ls.Nodup ∧ (∀ k ∈ ls, k ∈ sixK ∧ k ∉ keys m))
      ⟨none, sixK, [], [], rfl, e3, dmB, by rw [upd_ne hLS]; exact hL2, by rw [upd_ne hFS]; exact hF2, .nil, ⟨.nil, Nat.le_refl _, (fun _ z => nomatch z), (fun _ z => nomatch z)⟩, rfl, sixK_nd, fun k hk => ⟨hk, fun z => nomatch z⟩⟩ ?_ ?_
    · rintro i σ H4 hi ⟨x4, ls, ks, m, rfl, e4, dm4, hL4, hF4, hk4, om, hlen, hnd, hin⟩
      refine ⟨_, rfl, S, rfl, by decide, e4.src, fun H5 v d e5 hv gv => ?_⟩
      have e45 := e4.trans e5
      have hL5 := e5.at hLS hL4
      have hF5 := e5.at hFS hF4
      have dm5 := dm_ev dm4 e4.src e5
      have hi5 : i < 5 := by
        have : i < n.toNat := hi
        omega
      refine ⟨_, rfl, _, rfl, .inl ⟨rfl, _, SqL.of hL5⟩, _, rfl, _, rfl, L, _, rfl, .inl (SqL.of hL5), S, _, rfl, ?_, ?_, e5.src, fun c x2 y2 c0 cl => ?_⟩
      · rw [List.length_map]; omega
      · rw [List.length_map]; omega
      rw [List.length_map] at cl
      obtain ⟨j, rfl⟩ := Int.eq_ofNat_of_zero_le c0
      have hj : j < ls.length := by omega
      have hL6 : upd H5 S (.lst [.int x2, .int y2]) L = some (.lst (ls.map V.str)) := by rw [upd_ne hLS]; exact hL5
      have hF6 : upd H5 S (.lst [.int x2, .int y2]) F = some (.dK ks) := by rw [upd_ne hFS]; exact hF5
      refine ⟨L, _, _, j, _, rfl, rfl, hL6, by omega, by omega, ?_, by rw [List.getElem?_map, List.getElem?_eq_getElem hj]; rfl, ?_⟩
      · exact (ixN_seq (ixN_nat (by rw [List.length_map]; exact hj))).1
      have hkm : ks.length ≤ 5 := by
        have := Paired.length hk4
        have := om.len
        omega
      refine ⟨F, _, rfl, .inl ⟨ks, .inr ls[j], by rw [upd_ne hFL]; exact hF6, rfl, lt_line (by omega), rfl⟩, ?_⟩
      have hnk : ls[j] ∉ keys m := (hin _ (List.getElem_mem hj)).2
      have hkk := sixK_ok _ (hin _ (List.getElem_mem hj)).1
      refine ⟨_, ls.eraseIdx j, putK ks (.inr ls[j]) v, putM m ls[j] d, rfl, ?_, dm_upd (dm_upd (dm_upd dm5)), ?_, upd_same, ?_, ⟨nd_put _ _ om.nd, ?_, ?_, ?_⟩, ?_, ?_, ?_⟩
      · exact ev_upd (ev_upd (e45.trans ev_src) hLS hL) hFS hFn
      · rw [upd_ne (Ne.symm hFL), upd_same, erase_map]
      · rw [fr_upd_old (by rw [hF2]; exact fun z => nomatch z), fr_upd_old (by rw [hL2]; exact fun z => nomatch z), fr_upd_old hSB]
        exact (hk4.mono (rdS_of (fr_step dm4 hSB e5))).put (hv.mono (rdS_of (fr_in dm4)))
      · have := len_put m ls[j] d; have := om.len; omega
      · intro p hp
        rcases mem_put hp with z | z
        · exact om.key p z
        · rw [z]; exact hkk
      · intro p hp
        rcases mem_put hp with z | z
        · exact om.val p z
        · rw [z]; exact gv
      · rw [List.length_eraseIdx_of_lt hj]; omega
      · exact hnd.sublist (List.eraseIdx_sublist _ _)
      · intro k hk
        have hk' := (List.eraseIdx_sublist ls j).subset hk
        refine ⟨(hin k hk').1, fun z => ?_⟩
        rw [keys_put, if_neg hnk] at z
        rcases List.mem_append.mp z with z | z
        · exact (hin k hk').2 z
        · rw [List.mem_singleton] at z
          subst z
          exact erase_no hnd hj hk
    · rintro σ H4 ⟨x4, ls, ks, m, rfl, e4, dm4, hL4, hF4, hk4, om, hlen, hnd, hin⟩
      refine ⟨_, rfl, q H4 F m e4 ⟨ks, .inl (by rw [fr_new hFn]; exact hF4), hk4.mono (rdS_of (fr_in hHB))⟩ (om.mono (by omega)) (by rw [hF4]; exact fun z => nomatch z)⟩
theorem ok_de (F : Df K mg "_law_deeds" sDe ["_law_source_here", "_law_most"] f fd) (B : Bi mg) (P' : Df K mg "_law_pick" sPk ["_law_source_here", "_law_amount"] fp fpd) (V' : Df K mg "_law_value" sVa ["_law_source_here", "_law_depth"] fv fvd)
    (GP : FnOk P w K mg base CX0 1 fp fpd ["_law_source_here", "_law_amount"] spPk) (GV : FnOk P w K mg base CX0 4 fv fvd ["_law_source_here", "_law_depth"] (spVa 2)) : FnOk P w K mg base CX0 5 f fd ["_law_source_here", "_law_most"] spDe := by
  refine F.fn.ok scDe (fun vs H Q E h => ?_) (fun cdv A outer s H vs Q E hr h => ?_)
  · obtain ⟨S, rfl, _⟩ := h
    rfl
  · obtain ⟨S, rfl, hS, q⟩ := h
    have hr1 := hr.mono (by decide : 1 ≤ 4)
    refine ⟨_, pss_cons (ps_set (i := 2) scDe.nd rfl (Or.inl rfl) (pe_lst pa_nil))
      (pss_cons (ps_for PassesOwn.never rfl (pi_range1 (by rfl) B.range (pa_cons (pe_call GP hr1 rfl P'.m P'.fn.kp P'.b .nil pass0 (pa_cons (pv 0) (pa_cons (pe_op op_add (pv 1) pe_int) pa_nil))) pa_nil)) (pg_name (i := 3) scDe.nd rfl (Or.inl rfl))
        (pss_cons (ps_set (i := 4) scDe.nd rfl (Or.inl rfl) (pe_ix ix_list (pe_lst (pa_cons pe_str (pa_cons pe_str (pa_cons pe_str (pa_cons pe_str (pa_cons pe_str (pa_cons pe_str pa_nil))))))) (pe_call GP hr1 rfl P'.m P'.fn.kp P'.b .nil pass0 (pa_cons (pv 0) (pa_cons pe_int pa_nil))) (fun _ _ => rfl)))
        (pss_one (ps_expr (pe_bm PySem.F.plainAttrs_list PySem.F.slot_list_append PySem.F.type_list_append mt_append (pv 2) (pa_cons (pe_ifExp (pt_cmpR op_gt (pe_call GP hr1 rfl P'.m P'.fn.kp P'.b .nil pass0 (pa_cons (pv 0) (pa_cons pe_int pa_nil))) pe_int (nomark _))
          (pe_tup (pa_cons pe_str (pa_cons (pv 4) (pa_cons (pe_call GV hr rfl V'.m V'.fn.kp V'.b .nil pass0 (pa_cons (pv 0) (pa_cons pe_int pa_nil))) pa_nil)))) (pe_tup (pa_cons pe_str (pa_cons (pv 4) pa_nil)))) pa_nil))))))
      (pss_one (ps_ret (pv 2)))), ?_⟩
    refine ⟨l0_line, fun F hF => ?_⟩
    have hFS : F ≠ S := hS.ne hF
    have e1 : Ev S H (upd H F (.lst [])) := ev_new hS hF
    have hF1 : upd H F (.lst []) F = some (.lst []) := upd_same
    refine ⟨_, rfl, _, rfl, _, _, rfl, rfl, S, 4, rfl, by decide, by decide, e1.src, fun n x y n0 n4 => ⟨n, rfl, by omega, by omega, ?_⟩⟩
    have e2 := e1.trans (ev_src (x := x) (y := y))
    generalize upd H F (.lst []) = HB at e1 hF1 e2 ⊢
    have dmB : Dm HB (upd HB S (.lst [.int x, .int y])) := dm_upd fun _ z => z
    have dmH : Dm H HB := dm_ev (fun _ z => z) hS e1
    have hSB := e1.src.some
    have hFB : HB F ≠ none := by rw [hF1]; exact fun z => nomatch z
    refine for_range (fun i σ Hx => ∃ x3 x4 ts ds, σ = [some (.ref S), some (.int 3), some (.ref F), x3, x4] ∧ Ev S H Hx ∧ Dm HB Hx ∧ Hx F = some (.lst (ts.map V.ref)) ∧ Paired (DeedAt (fr HB Hx)) ts ds ∧ ds.length ≤ i)
      ⟨none, none, [], [], rfl, e2, dmB, by rw [upd_ne hFS]; exact hF1, .nil, Nat.le_refl _⟩ ?_ ?_
    · rintro i σ H4 hi ⟨x3, x4, ts, ds, rfl, e4, dm4, hF4, hd4, hl4⟩
      have hi3 : i < 3 := by
        have : i < n.toNat := hi
        omega
      have htl : ts.length ≤ 3 := by
        have := Paired.length hd4
        omega
      refine ⟨by show 6 ≤ sizeLine; exact le_line (by decide), fun L hL => ?_⟩
      have e5 : Ev S H4 (upd H4 L (.lst sixV)) := ev_new e4.src hL
      have hLS : L ≠ S := e4.src.ne hL
      refine ⟨_, rfl, S, 6, rfl, by decide, by decide, e5.src, fun c x2 y2 c0 c6 => ?_⟩
      have e6 := e5.trans (ev_src (x := x2) (y := y2))
      have hL6 := (ev_src (S := S) (H := upd H4 L (.lst sixV)) (x := x2) (y := y2)).at hLS upd_same
      obtain ⟨j, rfl⟩ := Int.eq_ofNat_of_zero_le c0
      have hj : j < sixK.length := by show j < 6; omega
      refine ⟨L, sixV, _, .str sixK[j], rfl, rfl, SqL.of hL6, atI_nat (by rw [six_map, List.getElem?_map, List.getElem?_eq_getElem hj]; rfl), ?_⟩
      have hk := sixK_ok _ (List.getElem_mem hj)
      generalize sixK[j] = k at hk
      generalize upd (upd H4 L (.lst sixV)) S (.lst [.int x2, .int y2]) = H6 at e6
      have hF6 := e6.at hFS hF4
      have dm6 := dm_ev dm4 e4.src e6
      have e06 := e4.trans e6
      have hd6 := Paired.mapP hd4 fun t d h => h.mono (rdS_of (fr_step dm4 hSB e6))
      refine ⟨_, rfl, .inl ⟨rfl, _, SqL.of hF6⟩, _, rfl, S, 3, rfl, by decide, by decide, e06.src, fun c2 x5 y5 z0 z3 => ⟨_, _, rfl, rfl, _, rfl, ?_⟩⟩
      have e7 : Ev S H6 (upd H6 S (.lst [.int x5, .int y5])) := ev_src
      have dm7 : Dm HB (upd H6 S (.lst [.int x5, .int y5])) := dm_upd dm6
      generalize upd H6 S (.lst [.int x5, .int y5]) = H7 at e7 dm7
      have hF7 := e7.at hFS hF6
      have e07 := e06.trans e7
      have hd7 := Paired.mapP hd6 fun t d h => h.mono (rdS_of (fr_step dm6 hSB e7))
      by_cases hc2 : (0 : Int) < c2
      · refine ifT (decide_eq_true hc2) ⟨_, rfl, _, rfl, S, rfl, by decide, e07.src, fun H8 v d e8 hv gv => ⟨l3_line, fun t ht => ?_⟩⟩
        have hF8 := e8.at hFS hF7
        have e08 := e07.trans e8
        have dm8 := dm_ev dm7 e07.src e8
        have htF : t ≠ F := fun z => by rw [z, hF8] at ht; cases ht
        have s9 : Same (fr HB H8) (fr HB (upd (upd H8 t (.tup [.str "put", .str k, v])) F (.lst (ts.map V.ref ++ [.ref t])))) := by
          rw [fr_upd_old hFB]
          exact fr_up_new ht
        refine ⟨F, _, _, rfl, rfl, by rw [upd_ne (Ne.symm htF)]; exact hF8, by rw [List.length_map]; exact lt_line (by omega), ?_⟩
        refine ⟨_, _, ts ++ [t], ds ++ [.put k d], rfl, ev_upd (e08.trans (ev_new e08.src ht)) hFS (by exact e1_free e1 hS hF), dm_upd (dm_upd dm8), by rw [upd_same, List.map_append]; rfl, ?_, by rw [List.length_append]; show ds.length + 1 ≤ i + 1; omega⟩
        refine paired_app (Paired.mapP hd7 fun t' d' h => (h.mono (rdS_of (fr_step dm7 hSB e8))).mono (rdS_of s9)) ⟨v, ?_, (hv.mono (rdS_of (fr_in dm7))).mono (rdS_of s9), gv, hk⟩
        rw [fr_new (dm8 t ht), upd_ne htF, upd_same]
      · refine ifF (decide_eq_false hc2) ⟨_, rfl, l2_line, fun t ht => ?_⟩
        have htF : t ≠ F := fun z => by rw [z, hF7] at ht; cases ht
        have s9 : Same (fr HB H7) (fr HB (upd (upd H7 t (.tup [.str "drop", .str k])) F (.lst (ts.map V.ref ++ [.ref t])))) := by
          rw [fr_upd_old hFB]
          exact fr_up_new ht
        refine ⟨F, _, _, rfl, rfl, by rw [upd_ne (Ne.symm htF)]; exact hF7, by rw [List.length_map]; exact lt_line (by omega), ?_⟩
        refine ⟨_, _, ts ++ [t], ds ++ [.drop k], rfl, ev_upd (e07.trans (ev_new e07.src ht)) hFS (by exact e1_free e1 hS hF), dm_upd (dm_upd dm7), by rw [upd_same, List.map_append]; rfl, ?_, by rw [List.length_append]; show ds.length + 1 ≤ i + 1; omega⟩
        refine paired_app (Paired.mapP hd7 fun t' d' h => h.mono (rdS_of s9)) ⟨?_, hk⟩
        rw [fr_new (dm7 t ht), upd_ne htF, upd_same]
    · rintro σ H4 ⟨x3, x4, ts, ds, rfl, e4, dm4, hF4, hd4, hl4⟩
      exact ⟨_, rfl, q H4 F ts ds e4 hF hF4 (Paired.mapP hd4 fun t d h => h.mono (rdS_of (fr_in dmH))) (by omega)⟩
end
end Mw

end

section
set_option Elab.async false
set_option linter.all false
set_option maxRecDepth 100000
set_option maxHeartbeats 4000000
/-! dict != dict, values of data without dicts; != {}. -/
namespace Mw
open PySem PySem.Spec PyProof.Rows L2
def rNeDV (K : PySem.W.Frag) : R2 := fun x y H Q => ∃ a b ks ls, x = .ref a ∧ y = .ref b ∧ Rd H a (.dK ks) ∧ Rd H b (.dK ls) ∧
  (ks.length = ls.length → ∀ p ∈ ks, ∃ u d e, valV ls p.1 = some u ∧ Dp K H p.2 d ∧ Dp K H u e ∧ SeqAt.shaped d = true ∧ SeqAt.shaped e = true ∧ PyData.eqv d e = true) ∧ Q (.bl (!(ks.length == ls.length))) H
section
variable {X : Cx}
theorem hits_dv {pins : List (Addr × Obj)} {σ : L2.St} {H : Hp} {s : Shared} (I : L2.Inv X pins σ H s) (hu : X.A.units + 70 < cLine) {ls : List (Key × V)} {vb : List (Key × Value)} (rb : KV ls vb) {ks : List (Key × V)} {va : List (Key × Value)} (ra : KV ks va) :
    (∀ p ∈ ks, ∃ u d e, valV ls p.1 = some u ∧ Dp X.K H p.2 d ∧ Dp X.K H u e ∧ SeqAt.shaped d = true ∧ SeqAt.shaped e = true ∧ PyData.eqv d e = true) → PySem.W.KeqHits X.A.in1 s vb va true := by
  unfold KV at ra
  induction ra with
  | nil => intro _; exact .nil
  | @cons p q ps qs h t k =>
    intro hp
    obtain ⟨h1, h2⟩ := h
    obtain ⟨u, d, e, hl, hd, he, sd, se, hq⟩ := hp p List.mem_cons_self
    have rr : RelO (some u) (valueAt vb p.1) := by rw [← hl]; exact rb.val p.1
    obtain ⟨y, hy, ry⟩ := rr.some_of
    obtain ⟨key, v⟩ := q
    have h1' : p.1 = key := h1
    rw [h1'] at hy
    obtain ⟨as, r1⟩ := Dp.reads I d p.2 v hd h2
    obtain ⟨bs, r2⟩ := Dp.reads I e u y he ry
    have at1 := PySem.W.keq_at (A := X.A) r1 r2 sd se (by show X.A.units + 1 + 64 < cLine; omega)
    rw [hq] at at1
    show PySem.W.KeqHits X.A.in1 s vb ((key, v) :: qs) (true && true)
    exact .hit hy at1 (k fun p' hm => hp p' (List.mem_cons_of_mem _ hm))
theorem op_neDV (hu : X.A.units + 70 < cLine) : OpR X (compareOp .NotEq) (rNeDV X.K) := by
  intro pins s σ H x y v u Q I rx ry h
  obtain ⟨a, b, ks, ls, rfl, rfl, ea, eb, hp, q⟩ := h
  cases (show v = Value.ref a from rx)
  cases (show u = Value.ref b from ry)
  obtain ⟨_, ya, va, ra, da⟩ := dk_rd I.hok ea
  obtain ⟨_, yb, vb, rb, db⟩ := dk_rd I.hok eb
  have la : ks.length = va.length := ra.length
  have lb : ls.length = vb.length := rb.length
  refine PySem.W.keq_ne (knd := mixKind X.prog X.w) (r := true) ya yb da db (by omega) (fun e => hits_dv I hu rb ra (hp (by omega))) ⟨.bl (!(ks.length == ls.length)), H, I, ?_, q⟩
  rw [la, lb, Bool.and_true]
  rfl
end
end Mw

end

section
set_option Elab.async false
set_option linter.all false
set_option maxRecDepth 100000
set_option maxHeartbeats 16000000
/-! law. -/
namespace Mw
open PySem PySem.Spec PyProof.Rows L2
abbrev sLw : Stmt := top 47
abbrev nLw : List Str := ["_law_script", "_law_k", "_law_source_here", "_law_turn", "_law_base", "_law_some", "_law_n", "_law_pairs", "_law_far", "_law_pair", "_law_value_here", "_law_first", "_law_near"]
theorem scLw : FnScope nLw ["_law_script"] (defScope sLw) := ⟨rfl, rfl, rfl, by decide +kernel, rfl, by decide +kernel, by decide +kernel⟩
def spLaw (K : PySem.W.Frag) : Sp := fun vs H Q _ => ∃ (a : Addr) (ns : List Int), vs = [.ref a] ∧ SqL K H a (ns.map V.int) ∧ ns.length ≤ 63 ∧ ∀ H', Q (.bl true) H'
section
variable {w : World} {K : PySem.W.Frag} {mg : Str → Option Value} {base : Heap} {f fn C fI : Addr} {fd fnd : FuncData}
theorem ch_none {m : Mp} {k : Str} (h : lk m k = none) : ch [] m k = false := ch_false.mpr (by rw [h]; rfl)
theorem cf_ab (k : Str) : cf [] [(("b" : Str), PyData.list [.int 1])] [(("a" : Str), PyData.list [.int 1])] k = false := by
  unfold cf
  by_cases hk : (("b" : Str)) = k
  · subst hk
    rw [ch_none (m := [(("a" : Str), PyData.list [.int 1])]) (lk_neg (by decide +kernel)), Bool.false_and, Bool.and_false]
  · rw [ch_none (m := [(("b" : Str), PyData.list [.int 1])]) (lk_neg hk), Bool.false_and]
theorem mrg_ab : mrg [] [(("b" : Str), PyData.list [.int 1])] [(("a" : Str), PyData.list [.int 1])] = [(("b" : Str), PyData.list [.int 1]), (("a" : Str), PyData.list [.int 1])] := by
  unfold mrg mdeeds
  have e1 : ch [] [(("a" : Str), PyData.list [.int 1])] "a" = true := ch_true.mpr (by rw [lk_pos rfl]; exact fun z => nomatch z)
  have e2 : ch [] [(("b" : Str), PyData.list [.int 1])] "a" = false := ch_none (lk_neg (by decide +kernel))
  rw [List.filter_cons_of_pos (by show (ch [] [(("a" : Str), PyData.list [.int 1])] "a" && !ch [] [(("b" : Str), PyData.list [.int 1])] "a") = true; rw [e1, e2]; rfl)]
  show putM [(("b" : Str), PyData.list [.int 1])] "a" (.list [.int 1]) = _
  rw [putM_no (by decide +kernel)]
  rfl
theorem two_kv {G : Hp} {ks : List (Key × V)} {x y : Str} {d e : PyData} (h : KvD G 1 ks [(x, d), (y, e)]) : ∃ v u, ks = [(.inr x, v), (.inr y, u)] ∧ IsD G 1 v d ∧ IsD G 1 u e := by
  cases h with
  | cons q t =>
    cases t with
    | cons q2 t2 =>
      cases t2
      rename_i p p2
      obtain ⟨k, v⟩ := p
      obtain ⟨k2, u⟩ := p2
      obtain ⟨rfl, h1⟩ := q
      obtain ⟨rfl, h2⟩ := q2
      exact ⟨v, u, rfl, h1, h2⟩
theorem one_list {G : Hp} {v : V} (h : IsD G 1 v (.list [.int 1])) : ∃ q, v = .ref q ∧ G q = some (.lst [.int 1]) := by
  rcases h with h | ⟨p, vs, xs, rfl, e, hp, hv⟩ | ⟨p, vs, xs, rfl, e, _⟩ | ⟨p, ks, ds, rfl, e, _⟩
  · cases h
  · cases e
    cases hv with
    | cons q t =>
      cases t
      cases (show atV (.int 1) = some _ from q)
      exact ⟨p, rfl, hp⟩
  · cases e
  · cases e
theorem upd_at {H : Hp} {p b : Addr} {o u : HO} (h : b ≠ p) (e : H b = some u) : upd H p o b = some u := by
  rw [upd_ne h]
  exact e
theorem merge_ba {x y : V} : mergeK [] [(Sum.inr ("b" : Str), x), (Sum.inr ("a" : Str), y)] = [(Sum.inr ("b" : Str), x), (Sum.inr ("a" : Str), y)] := by
  show putK [((Sum.inr ("b" : Str) : Key), x)] (Sum.inr ("a" : Str)) y = _
  unfold putK
  rw [if_neg (by show ¬ (decide ((Sum.inr ("b" : Str) : Key) = Sum.inr ("a" : Str)) || false) = true; decide +kernel)]
  rfl
theorem merge_ab {x y : V} : mergeK [] [(Sum.inr ("a" : Str), x), (Sum.inr ("b" : Str), y)] = [(Sum.inr ("a" : Str), x), (Sum.inr ("b" : Str), y)] := by
  show putK [((Sum.inr ("a" : Str) : Key), x)] (Sum.inr ("b" : Str)) y = _
  unfold putK
  rw [if_neg (by show ¬ (decide ((Sum.inr ("a" : Str) : Key) = Sum.inr ("b" : Str)) || false) = true; decide +kernel)]
  rfl
theorem nd_ba {x y : V} : ([((Sum.inr ("b" : Str) : Key), x), (Sum.inr ("a" : Str), y)].map (·.1)).Nodup := by
  show [(Sum.inr ("b" : Str) : Key), Sum.inr ("a" : Str)].Nodup
  decide +kernel
theorem eqv_ints : ∀ ns : List Int, PyData.eqv (.list (ns.map PyData.int)) (.list (ns.map PyData.int)) = true := by
  intro ns
  simp only [PyData.eqv]
  induction ns with
  | nil => simp [PyData.eqvAll]
  | cons n r ih =>
    rw [List.map_cons]
    unfold PyData.eqvAll
    rw [ih]
    simp [PyData.eqv]
def mAB : Mp := [("a", .int 1), ("b", .int 2)]
def mBA : Mp := [("b", .int 2), ("a", .int 1)]
theorem lk_abba (k : Str) : lk mAB k = lk mBA k := by
  by_cases ha : (("a" : Str)) = k
  · subst ha
    have h : lk mBA "a" = some (.int 1) := (lk_neg (p := ("b", .int 2)) (by decide +kernel)).trans (lk_pos rfl)
    rw [h]
    exact lk_pos rfl
  · by_cases hb : (("b" : Str)) = k
    · subst hb
      have h : lk mAB "b" = some (.int 2) := (lk_neg (p := ("a", .int 1)) (by decide +kernel)).trans (lk_pos rfl)
      have h2 : lk mBA "b" = some (.int 2) := lk_pos (p := ("b", .int 2)) rfl
      rw [h, h2]
    · have h1 : lk mAB k = none := (lk_neg (p := ("a", .int 1)) ha).trans (lk_neg (p := ("b", .int 2)) hb)
      have h2 : lk mBA k = none := (lk_neg (p := ("b", .int 2)) hb).trans (lk_neg (p := ("a", .int 1)) ha)
      rw [h1, h2]
theorem mrg_abba : mrg mAB mAB mBA = mAB := by
  unfold mrg mdeeds
  have e1 : (keys mAB).filter (fun k => (lk mBA k).isNone) = [] := filter_none fun k hk => by
    have h : (lk mAB k).isSome = true := lk_mem.mpr hk
    rw [← lk_abba]
    cases q : lk mAB k with
    | none => rw [q] at h; cases h
    | some _ => rfl
  have e2 : mBA.filter (fun p => ch mAB mBA p.1 && !ch mAB mAB p.1) = [] := filter_none fun p _ => by
    have h : ch mAB mBA p.1 = false := ch_false.mpr (lk_abba p.1)
    rw [h, Bool.false_and]
  rw [e1, e2]
  rfl
theorem law_tail (B : Bi mg) (N' : Df K mg "merged" sMg ["base", "one", "other"] fn fnd) (GN : FnOk pW w K mg base (L2.CX pW w) 8 fn fnd ["base", "one", "other"] (spMg C))
    {cdv : Value} {A : Around} {outer : List Env} {s : Shared} {H0 : Hp} {E : XK} (hr : Room 11 (A.deeper (envOfC "law" (defScope sLw) s.heap.objs.size f cdv))) :
    ∃ t, PSs (cxOf CX0 pW w K mg base nLw "law" (defScope sLw) f cdv A outer s H0 E).nox ((defBody sLw).drop 1) t ∧ ∀ (D : Ends) (H : Hp) (x0 x1 x2 x3 x4 x5 x6 x7 x8 x9 x10 x11 x12 : Option V), (∀ H', D.rt (.bl true) H') → t D [x0, x1, x2, x3, x4, x5, x6, x7, x8, x9, x10, x11, x12] H := by
  have hu := hu_of hr
  have hr8 := hr.mono (by decide : 8 ≤ 11)
  have hu70 : (A.deeper (envOfC "law" (defScope sLw) s.heap.objs.size f cdv)).units + 70 < cLine := by have := hr.un; omega
  refine ⟨_, pss_cons (ps_par (i := 10) (j := 11) rfl scLw.nd rfl rfl (by decide) rfl rfl (pa_cons (pe_disp (pps_cons pe_str (pe_lst (pa_cons pe_int pa_nil)) pps_nil) rfl rfl (by decide) (by decide)) (pa_cons (pe_disp (pps_cons pe_str (pe_lst (pa_cons pe_int pa_nil)) pps_nil) rfl rfl (by decide) (by decide)) pa_nil)) rfl)
    (pss_cons (ps_set (i := 12) scLw.nd rfl (Or.inl rfl) (pe_callS GN hr8 rfl N'.m N'.fn.kp N'.b (fun σ => passAt takes0 σ) (pa_cons pe_dnewK (pa_cons (pv 11) (pa_cons (pv 10) pa_nil)))))
    (pss_cons (ps_expr (pe_bm PySem.F.plainAttrs_list PySem.F.slot_list_append PySem.F.type_list_append mt_append (pe_dget hu (pv 10) pe_str (fun _ _ => rfl)) (pa_cons pe_int pa_nil)))
    (pss_cons (ps_expr (pe_bm PySem.F.plainAttrs_list PySem.F.slot_list_append PySem.F.type_list_append mt_append (pe_dget hu (pv 11) pe_str (fun _ _ => rfl)) (pa_cons pe_int pa_nil)))
    (pss_cons (ps_if (pt_cmpR (op_neDV hu70) (pv 12) (pe_disp (pps_cons pe_str (pe_lst (pa_cons pe_int pa_nil)) (pps_cons pe_str (pe_lst (pa_cons pe_int pa_nil)) pps_nil)) rfl rfl (by decide) (by decide)) (nomark _)) (pss_one (ps_ret pe_bl)) pss_nil)
    (pss_cons (ps_expr (pe_bm PySem.F.plainAttrs_list PySem.F.slot_list_append PySem.F.type_list_append mt_append (pe_dget hu (pv 12) pe_str (fun _ _ => rfl)) (pa_cons pe_int pa_nil)))
    (pss_cons (ps_if (PW.pt (pw_or (pt_cmpR (op_neDV hu70) (pv 11) (pe_disp (pps_cons pe_str (pe_lst (pa_cons pe_int (pa_cons pe_int pa_nil))) pps_nil) rfl rfl (by decide) (by decide)) (nomark _))
        (pw_or1 (pt_cmpR (op_neDV hu70) (pv 10) (pe_disp (pps_cons pe_str (pe_lst (pa_cons pe_int (pa_cons pe_int pa_nil))) pps_nil) rfl rfl (by decide) (by decide)) (nomark _))))) (pss_one (ps_ret pe_bl)) pss_nil)
    (pss_one (ps_ret (pe_cmpR (op_eqD hr.units) (pe_callTy (call_listRd rfl) (by rfl) B.list (by decide +kernel) (pa_cons (pe_callS GN hr8 rfl N'.m N'.fn.kp N'.b (fun σ => passAt takes0 σ)
        (pa_cons (pe_disp (pps_cons pe_str pe_int (pps_cons pe_str pe_int pps_nil)) rfl rfl (by decide) (by decide)) (pa_cons (pe_disp (pps_cons pe_str pe_int (pps_cons pe_str pe_int pps_nil)) rfl rfl (by decide) (by decide)) (pa_cons (pe_disp (pps_cons pe_str pe_int (pps_cons pe_str pe_int pps_nil)) rfl rfl (by decide) (by decide)) pa_nil)))) pa_nil))
        (pe_lst (pa_cons pe_str (pa_cons pe_str pa_nil))) (nomark _)))))))))), ?_⟩
  intro D H x0 x1 x2 x3 x4 x5 x6 x7 x8 x9 x10 x11 x12 q
  refine fun d1 hd1 => ⟨l1_line, fun l1 hl1 => ⟨?_, [(.inr "a", .ref l1)], rfl, (by show 1 ≤ 15; decide), fun d2 hd2 => ⟨l1_line, fun l2 hl2 => ⟨?_, [(.inr "b", .ref l2)], rfl, (by show 1 ≤ 15; decide), _, _, rfl, ?_⟩⟩⟩⟩
  · rw [upd_ne (fun z => by rw [← z, upd_same] at hl1; cases hl1)]
    exact upd_same
  · rw [upd_ne (fun z => by rw [← z, upd_same] at hl2; cases hl2)]
    exact upd_same
  have n1 : d1 ≠ l1 := fun z => by rw [← z, upd_same] at hl1; cases hl1
  have n2 : d2 ≠ l2 := fun z => by rw [← z, upd_same] at hl2; cases hl2
  have e1 : mergeK [] [(Sum.inr ("a" : Str), V.ref l1)] = [(Sum.inr ("a" : Str), V.ref l1)] := rfl
  have e2 : mergeK [] [(Sum.inr ("b" : Str), V.ref l2)] = [(Sum.inr ("b" : Str), V.ref l2)] := rfl
  rw [e1] at hd2 hl2 ⊢
  rw [e2]
  have a1 : upd (upd (upd H d1 (.dK [])) l1 (.lst [.int 1])) d1 (.dK [(.inr "a", .ref l1)]) d1 = some (.dK [(.inr "a", .ref l1)]) := upd_same
  have a2 : upd (upd (upd H d1 (.dK [])) l1 (.lst [.int 1])) d1 (.dK [(.inr "a", .ref l1)]) l1 = some (.lst [.int 1]) := by rw [upd_ne (Ne.symm n1)]; exact upd_same
  generalize upd (upd (upd H d1 (.dK [])) l1 (.lst [.int 1])) d1 (.dK [(.inr "a", .ref l1)]) = H3 at a1 a2 hd2 hl2 ⊢
  have s1 : Same H3 (upd H3 d2 (.dK [])) := same_upd hd2
  have s2 := s1.trans (same_upd (o := .lst [.int 1]) hl2)
  have s3 : Same H3 (upd (upd (upd H3 d2 (.dK [])) l2 (.lst [.int 1])) d2 (.dK [(.inr "b", .ref l2)])) := fun b o h => by rw [upd_ne (ne_of_none h hd2)]; exact s2 b o h
  have b1 : upd (upd (upd H3 d2 (.dK [])) l2 (.lst [.int 1])) d2 (.dK [(.inr "b", .ref l2)]) d2 = some (.dK [(.inr "b", .ref l2)]) := upd_same
  have b2 : upd (upd (upd H3 d2 (.dK [])) l2 (.lst [.int 1])) d2 (.dK [(.inr "b", .ref l2)]) l2 = some (.lst [.int 1]) := by rw [upd_ne (Ne.symm n2)]; exact upd_same
  have n12 : l1 ≠ l2 := fun z => by
    have h3 := s1.free hl2
    rw [← z, a2] at h3
    cases h3
  replace a1 := s3 _ _ a1
  replace a2 := s3 _ _ a2
  generalize upd (upd (upd H3 d2 (.dK [])) l2 (.lst [.int 1])) d2 (.dK [(.inr "b", .ref l2)]) = H4 at a1 a2 b1 b2 ⊢
  clear s1 s2 s3 hd2 hl2 hd1 hl1 e1 e2
  have gA : gd 1 (.list [.int 1]) := ⟨by show 1 ≤ 40; decide, fun x hx => by rw [List.mem_singleton.mp hx]; show (1 : Int).natAbs < 10 ^ 18; decide⟩
  have okA : OkM 12 [(("a" : Str), PyData.list [.int 1])] := ⟨by simp [keys], by show 1 ≤ 12; decide, fun p hp => by rw [List.mem_singleton.mp hp]; exact sixK_ok _ (by decide +kernel), fun p hp => by rw [List.mem_singleton.mp hp]; exact gA⟩
  have okB : OkM 12 [(("b" : Str), PyData.list [.int 1])] := ⟨by simp [keys], by show 1 ≤ 12; decide, fun p hp => by rw [List.mem_singleton.mp hp]; exact sixK_ok _ (by decide +kernel), fun p hp => by rw [List.mem_singleton.mp hp]; exact gA⟩
  have okN : OkM 12 [] := ⟨.nil, by decide, (fun _ z => nomatch z), (fun _ z => nomatch z)⟩
  refine fun e he => ?_
  have s5 : Same H4 (upd H4 e (.dK [])) := same_upd he
  have c0 := upd_same (H := H4) (a := e) (o := .dK [])
  generalize upd H4 e (.dK []) = H5 at s5 c0 ⊢
  have a15 := s5 _ _ a1
  have a25 := s5 _ _ a2
  have b15 := s5 _ _ b1
  have b25 := s5 _ _ b2
  have mA : MapAt H5 d1 [(("a" : Str), PyData.list [.int 1])] := ⟨_, .inl a15, .cons ⟨rfl, .inr (.inl ⟨l1, _, _, rfl, rfl, a25, .cons rfl .nil⟩)⟩ .nil⟩
  have mB : MapAt H5 d2 [(("b" : Str), PyData.list [.int 1])] := ⟨_, .inl b15, .cons ⟨rfl, .inr (.inl ⟨l2, _, _, rfl, rfl, b25, .cons rfl .nil⟩)⟩ .nil⟩
  have mN : MapAt H5 e [] := ⟨[], .inl c0, .nil⟩
  refine ⟨_, rfl, _, rfl, e, d2, d1, _, _, _, rfl, mN, mB, mA, okN, okB, okA, fun H6 r s6 _ hm => ?_, fun H6 d tp ks' _ _ hcf hne _ _ _ => hne (no_cf cf_ab hcf)⟩
  rw [mrg_ab] at hm
  obtain ⟨ks, hrk, hkv⟩ := hm
  obtain ⟨vb, va, rfl, hvb, hva⟩ := two_kv hkv
  obtain ⟨qb, rfl, hqb⟩ := one_list hvb
  obtain ⟨qa, rfl, hqa⟩ := one_list hva
  have fresh : ∀ {q : Addr} {o : HO}, fr H5 H6 q = some o → H5 q = none ∧ H6 q = some o := fun {q o} h => by
    unfold fr at h
    by_cases hb : H5 q = none
    · rw [if_pos hb] at h; exact ⟨hb, h⟩
    · rw [if_neg hb] at h; cases h
  obtain ⟨fb, hb6⟩ := fresh hqb
  obtain ⟨fa, ha6⟩ := fresh hqa
  have hr6 := (rdS_of (fr_sub (H := H5) (H' := H6))).rd r _ rfl hrk
  have rne : ∀ {q : Addr} {xs : List V}, H6 q = some (.lst xs) → q ≠ r := fun {q xs} h z => by
    subst z
    rcases hr6 with h' | ⟨u, h'⟩ <;> rw [h] at h' <;> cases h'
  have a16 := s6 _ _ a15
  have a26 := s6 _ _ a25
  have b16 := s6 _ _ b15
  have b26 := s6 _ _ b25
  have ql1 : qb ≠ l1 := fun z => by rw [z, a25] at fb; cases fb
  have ql2 : qb ≠ l2 := fun z => by rw [z, b25] at fb; cases fb
  have qm1 : qa ≠ l1 := fun z => by rw [z, a25] at fa; cases fa
  have qm2 : qa ≠ l2 := fun z => by rw [z, b25] at fa; cases fa
  have d1l : ∀ {x : Addr} {xs : List V}, H6 x = some (.lst xs) → d1 ≠ x ∧ d2 ≠ x := fun {x xs} h => ⟨(fun z => by rw [← z, a16] at h; cases h), (fun z => by rw [← z, b16] at h; cases h)⟩
  have rl1 := rne a26
  have rl2 := rne b26
  have rqb := rne hb6
  obtain ⟨dl1, dl1'⟩ := d1l a26
  obtain ⟨dl2, dl2'⟩ := d1l b26
  obtain ⟨dq, dq'⟩ := d1l hb6
  clear s6 s5 a15 a25 b15 b25 mA mB mN c0 a1 a2 b1 b2 fb fa hvb hva hqb hqa hrk hkv fresh rne d1l
  -- value['a'].append(2), first['b'].append(2)
  refine ⟨_, rfl, d1, .ref l1, rfl, .inl ⟨_, .inr "a", .inl a16, rfl, (valV_get (i := 0) (by simp) rfl).symm⟩, .inl ⟨rfl, _, SqL.of a26⟩, l1, _, _, rfl, rfl, a26, lt_line (by show 1 ≤ 16000000; decide), ?_⟩
  have hr7 : Rd (upd H6 l1 (.lst ([.int 1] ++ [.int 2]))) r _ := rd_upd hr6 rl1
  have a17 := upd_at (H := H6) (p := l1) (o := (.lst ([.int 1] ++ [.int 2]))) dl1 a16
  have b17 := upd_at (H := H6) (p := l1) (o := (.lst ([.int 1] ++ [.int 2]))) dl1' b16
  have a27 : upd H6 l1 (.lst ([.int 1] ++ [.int 2])) l1 = some (.lst [.int 1, .int 2]) := upd_same
  have b27 := upd_at (H := H6) (p := l1) (o := (.lst ([.int 1] ++ [.int 2]))) (Ne.symm n12) b26
  have qb7 := upd_at (H := H6) (p := l1) (o := (.lst ([.int 1] ++ [.int 2]))) ql1 hb6
  have qa7 := upd_at (H := H6) (p := l1) (o := (.lst ([.int 1] ++ [.int 2]))) qm1 ha6
  generalize upd H6 l1 (.lst ([.int 1] ++ [.int 2])) = H7 at hr7 a17 b17 a27 b27 qb7 qa7
  refine ⟨_, rfl, d2, .ref l2, rfl, .inl ⟨_, .inr "b", .inl b17, rfl, (valV_get (i := 0) (by simp) rfl).symm⟩, .inl ⟨rfl, _, SqL.of b27⟩, l2, _, _, rfl, rfl, b27, lt_line (by show 1 ≤ 16000000; decide), ?_⟩
  have hr8' : Rd (upd H7 l2 (.lst ([.int 1] ++ [.int 2]))) r _ := rd_upd hr7 rl2
  have a18 := upd_at (H := H7) (p := l2) (o := (.lst ([.int 1] ++ [.int 2]))) dl2 a17
  have b18 := upd_at (H := H7) (p := l2) (o := (.lst ([.int 1] ++ [.int 2]))) dl2' b17
  have b28 : upd H7 l2 (.lst ([.int 1] ++ [.int 2])) l2 = some (.lst [.int 1, .int 2]) := upd_same
  have a28 := upd_at (H := H7) (p := l2) (o := (.lst ([.int 1] ++ [.int 2]))) n12 a27
  have qb8 := upd_at (H := H7) (p := l2) (o := (.lst ([.int 1] ++ [.int 2]))) ql2 qb7
  have qa8 := upd_at (H := H7) (p := l2) (o := (.lst ([.int 1] ++ [.int 2]))) qm2 qa7
  generalize upd H7 l2 (.lst ([.int 1] ++ [.int 2])) = H8 at hr8' a18 b18 a28 b28 qb8 qa8
  clear hr7 a17 b17 a27 b27 qb7 qa7 hr6 a16 a26 b16 b26 hb6 ha6
  -- near != {..}
  refine ⟨_, rfl, fun d3 hd3 => ⟨l1_line, fun l3 hl3 => ⟨l1_line, fun l4 hl4 => ⟨?_, [(.inr "b", .ref l3), (.inr "a", .ref l4)], rfl, (by show 2 ≤ 15; decide), ?_⟩⟩⟩⟩
  · rw [upd_ne (fun z => by rw [← z, upd_ne (fun z' => by rw [← z', upd_same] at hl3; cases hl3), upd_same] at hl4; cases hl4), upd_ne (fun z => by rw [← z, upd_same] at hl3; cases hl3)]
    exact upd_same
  rw [merge_ba]
  have t1 : Same H8 (upd H8 d3 (.dK [])) := same_upd hd3
  have t2 := t1.trans (same_upd (o := .lst [.int 1]) hl3)
  have c3 : upd (upd H8 d3 (.dK [])) l3 (.lst [.int 1]) l3 = some (.lst [.int 1]) := upd_same
  have c33 := same_upd (o := .lst [.int 1]) hl4 _ _ c3
  have c44 : upd (upd (upd H8 d3 (.dK [])) l3 (.lst [.int 1])) l4 (.lst [.int 1]) l4 = some (.lst [.int 1]) := upd_same
  have t3 := t2.trans (same_upd (o := .lst [.int 1]) hl4)
  have m3 : d3 ≠ l3 := fun z => by rw [← z, upd_same] at hl3; cases hl3
  have m4 : d3 ≠ l4 := fun z => by rw [← z, upd_ne m3, upd_same] at hl4; cases hl4
  generalize upd (upd (upd H8 d3 (.dK [])) l3 (.lst [.int 1])) l4 (.lst [.int 1]) = H9 at t3 c33 c44 ⊢
  have t4 : Same H8 (upd H9 d3 (.dK [(.inr "b", .ref l3), (.inr "a", .ref l4)])) := fun b o h => by rw [upd_ne (ne_of_none h hd3)]; exact t3 b o h
  have c35 : upd H9 d3 (.dK [(.inr "b", .ref l3), (.inr "a", .ref l4)]) l3 = some (.lst [.int 1]) := by rw [upd_ne (Ne.symm m3)]; exact c33
  have c45 : upd H9 d3 (.dK [(.inr "b", .ref l3), (.inr "a", .ref l4)]) l4 = some (.lst [.int 1]) := by rw [upd_ne (Ne.symm m4)]; exact c44
  have c55 : upd H9 d3 (.dK [(.inr "b", .ref l3), (.inr "a", .ref l4)]) d3 = some (.dK [(.inr "b", .ref l3), (.inr "a", .ref l4)]) := upd_same
  generalize upd H9 d3 (.dK [(.inr "b", .ref l3), (.inr "a", .ref l4)]) = H10 at t4 c35 c45 c55 ⊢
  have hr10 := (rdS_of t4).rd r _ rfl hr8'
  have qb10 := t4 _ _ qb8
  have qa10 := t4 _ _ qa8
  refine ⟨r, d3, _, _, rfl, rfl, hr10, .inl c55, fun _ p hp => ?_, _, rfl, ifF rfl ?_⟩
  · rcases List.mem_cons.mp hp with rfl | hp
    · exact ⟨_, _, _, valV_get (i := 0) nd_ba rfl, dp_ints (ns := [1]) (SqL.of qb10), dp_ints (ns := [1]) (SqL.of c35), shaped_ints _, shaped_ints _, eqv_ints _⟩
    · rw [List.mem_singleton.mp hp]
      exact ⟨_, _, _, valV_get (i := 1) nd_ba rfl, dp_ints (ns := [1]) (SqL.of qa10), dp_ints (ns := [1]) (SqL.of c45), shaped_ints _, shaped_ints _, eqv_ints _⟩
  have a110 := t4 _ _ a18
  have b110 := t4 _ _ b18
  have a210 := t4 _ _ a28
  have b210 := t4 _ _ b28
  clear t1 t2 t3 t4 c3 c33 c44 c35 c45 c55 hd3 hl3 hl4 hr8' a18 b18 a28 b28 qb8 qa8 qa10
  -- near['b'].append(3)
  refine ⟨_, rfl, r, .ref qb, rfl, .inl ⟨_, .inr "b", hr10, rfl, (valV_get (i := 0) nd_ba rfl).symm⟩, .inl ⟨rfl, _, SqL.of qb10⟩, qb, _, _, rfl, rfl, qb10, lt_line (by show 1 ≤ 16000000; decide), ?_⟩
  have a111 := upd_at (H := H10) (p := qb) (o := (.lst ([.int 1] ++ [.int 3]))) dq a110
  have b111 := upd_at (H := H10) (p := qb) (o := (.lst ([.int 1] ++ [.int 3]))) dq' b110
  have a211 := upd_at (H := H10) (p := qb) (o := (.lst ([.int 1] ++ [.int 3]))) (Ne.symm ql1) a210
  have b211 := upd_at (H := H10) (p := qb) (o := (.lst ([.int 1] ++ [.int 3]))) (Ne.symm ql2) b210
  generalize upd H10 qb (.lst ([.int 1] ++ [.int 3])) = H11 at a111 b111 a211 b211
  -- first != .., value != ..
  refine ⟨_, rfl, fun d5 hd5 => ⟨l2_line, fun l5 hl5 => ⟨?_, [(.inr "b", .ref l5)], rfl, (by show 1 ≤ 15; decide), ?_⟩⟩⟩
  · rw [upd_ne (fun z => by rw [← z, upd_same] at hl5; cases hl5)]
    exact upd_same
  rw [show mergeK [] [(Sum.inr ("b" : Str), V.ref l5)] = [(Sum.inr ("b" : Str), V.ref l5)] from rfl]
  have m5 : d5 ≠ l5 := fun z => by rw [← z, upd_same] at hl5; cases hl5
  have t5 : Same H11 (upd (upd (upd H11 d5 (.dK [])) l5 (.lst [.int 1, .int 2])) d5 (.dK [(.inr "b", .ref l5)])) := fun b o h => by
    rw [upd_ne (ne_of_none h hd5)]
    exact ((same_upd hd5).trans (same_upd hl5)) b o h
  have c5 : upd (upd (upd H11 d5 (.dK [])) l5 (.lst [.int 1, .int 2])) d5 (.dK [(.inr "b", .ref l5)]) d5 = some _ := upd_same
  have c6 : upd (upd (upd H11 d5 (.dK [])) l5 (.lst [.int 1, .int 2])) d5 (.dK [(.inr "b", .ref l5)]) l5 = some (.lst [.int 1, .int 2]) := by rw [upd_ne (Ne.symm m5)]; exact upd_same
  generalize upd (upd (upd H11 d5 (.dK [])) l5 (.lst [.int 1, .int 2])) d5 (.dK [(.inr "b", .ref l5)]) = H12 at t5 c5 c6 ⊢
  refine ⟨d2, d5, _, _, rfl, rfl, .inl (t5 _ _ b111), .inl c5, fun _ p hp => ?_, _, rfl, iteF ?_⟩
  · rw [List.mem_singleton.mp hp]
    exact ⟨_, _, _, valV_get (i := 0) (by simp) rfl, dp_ints (ns := [1, 2]) (SqL.of (t5 _ _ b211)), dp_ints (ns := [1, 2]) (SqL.of c6), shaped_ints _, shaped_ints _, eqv_ints _⟩
  have a112 := t5 _ _ a111
  have a212 := t5 _ _ a211
  refine ⟨_, rfl, fun d7 hd7 => ⟨l2_line, fun l7 hl7 => ⟨?_, [(.inr "a", .ref l7)], rfl, (by show 1 ≤ 15; decide), ?_⟩⟩⟩
  · rw [upd_ne (fun z => by rw [← z, upd_same] at hl7; cases hl7)]
    exact upd_same
  rw [show mergeK [] [(Sum.inr ("a" : Str), V.ref l7)] = [(Sum.inr ("a" : Str), V.ref l7)] from rfl]
  have m7 : d7 ≠ l7 := fun z => by rw [← z, upd_same] at hl7; cases hl7
  have t7 : Same H12 (upd (upd (upd H12 d7 (.dK [])) l7 (.lst [.int 1, .int 2])) d7 (.dK [(.inr "a", .ref l7)])) := fun b o h => by
    rw [upd_ne (ne_of_none h hd7)]
    exact ((same_upd hd7).trans (same_upd hl7)) b o h
  have c7 : upd (upd (upd H12 d7 (.dK [])) l7 (.lst [.int 1, .int 2])) d7 (.dK [(.inr "a", .ref l7)]) d7 = some _ := upd_same
  have c8 : upd (upd (upd H12 d7 (.dK [])) l7 (.lst [.int 1, .int 2])) d7 (.dK [(.inr "a", .ref l7)]) l7 = some (.lst [.int 1, .int 2]) := by rw [upd_ne (Ne.symm m7)]; exact upd_same
  generalize upd (upd (upd H12 d7 (.dK [])) l7 (.lst [.int 1, .int 2])) d7 (.dK [(.inr "a", .ref l7)]) = H13 at t7 c7 c8 ⊢
  refine ⟨d1, d7, _, _, rfl, rfl, .inl (t7 _ _ a112), .inl c7, fun _ p hp => ?_, _, rfl, iteF ?_⟩
  · rw [List.mem_singleton.mp hp]
    exact ⟨_, _, _, valV_get (i := 0) (by simp) rfl, dp_ints (ns := [1, 2]) (SqL.of (t7 _ _ a212)), dp_ints (ns := [1, 2]) (SqL.of c8), shaped_ints _, shaped_ints _, eqv_ints _⟩
  clear t5 t7 c5 c6 c7 c8 a111 b111 a211 b211 a112 a212 hd5 hl5 hd7 hl7 a110 b110 a210 b210 hr10 qb10
  -- the last line
  refine fun d8 hd8 => ⟨upd_same, [(.inr "a", .int 1), (.inr "b", .int 2)], rfl, (by show 2 ≤ 15; decide), fun d9 hd9 => ⟨upd_same, [(.inr "a", .int 1), (.inr "b", .int 2)], rfl, (by show 2 ≤ 15; decide), fun d10 hd10 => ⟨upd_same, [(.inr "b", .int 2), (.inr "a", .int 1)], rfl, (by show 2 ≤ 15; decide), ?_⟩⟩⟩
  rw [merge_ab] at hd9 hd10 ⊢
  rw [merge_ba]
  have k89 : d8 ≠ d9 := fun z => by rw [← z, upd_same] at hd9; cases hd9
  have k910 : d9 ≠ d10 := fun z => by rw [← z, upd_same] at hd10; cases hd10
  have k810 : d8 ≠ d10 := fun z => by rw [← z, upd_ne k89, upd_ne k89, upd_same] at hd10; cases hd10
  have f10 : upd (upd (upd (upd (upd (upd H13 d8 (.dK [])) d8 (.dK [(.inr "a", .int 1), (.inr "b", .int 2)])) d9 (.dK [])) d9 (.dK [(.inr "a", .int 1), (.inr "b", .int 2)])) d10 (.dK [])) d10 (.dK [(.inr "b", .int 2), (.inr "a", .int 1)]) d10 = some (.dK [(.inr "b", .int 2), (.inr "a", .int 1)]) := upd_same
  have f9 : upd (upd (upd (upd (upd (upd H13 d8 (.dK [])) d8 (.dK [(.inr "a", .int 1), (.inr "b", .int 2)])) d9 (.dK [])) d9 (.dK [(.inr "a", .int 1), (.inr "b", .int 2)])) d10 (.dK [])) d10 (.dK [(.inr "b", .int 2), (.inr "a", .int 1)]) d9 = some (.dK [(.inr "a", .int 1), (.inr "b", .int 2)]) := by
    rw [upd_ne k910, upd_ne k910, upd_same]
  have f8 : upd (upd (upd (upd (upd (upd H13 d8 (.dK [])) d8 (.dK [(.inr "a", .int 1), (.inr "b", .int 2)])) d9 (.dK [])) d9 (.dK [(.inr "a", .int 1), (.inr "b", .int 2)])) d10 (.dK [])) d10 (.dK [(.inr "b", .int 2), (.inr "a", .int 1)]) d8 = some (.dK [(.inr "a", .int 1), (.inr "b", .int 2)]) := by
    rw [upd_ne k810, upd_ne k810, upd_ne k89, upd_ne k89, upd_same]
  generalize upd (upd (upd (upd (upd (upd H13 d8 (.dK [])) d8 (.dK [(.inr "a", .int 1), (.inr "b", .int 2)])) d9 (.dK [])) d9 (.dK [(.inr "a", .int 1), (.inr "b", .int 2)])) d10 (.dK [])) d10 (.dK [(.inr "b", .int 2), (.inr "a", .int 1)]) = H14 at f10 f9 f8 ⊢
  clear hd8 hd9 hd10
  have okI : ∀ {x y : Str} {i j : Int}, okK x → okK y → x ≠ y → i.natAbs < 10 ^ 18 → j.natAbs < 10 ^ 18 → OkM 12 [(x, PyData.int i), (y, PyData.int j)] := fun {x y i j} hx hy hxy hi hj =>
    ⟨by show [x, y].Nodup; simp [hxy], by show 2 ≤ 12; decide, fun p hp => by
      rcases List.mem_cons.mp hp with rfl | hp
      · exact hx
      · rw [List.mem_singleton.mp hp]; exact hy, fun p hp => by
      rcases List.mem_cons.mp hp with rfl | hp
      · exact hi
      · rw [List.mem_singleton.mp hp]; exact hj⟩
  have ka : okK ("a" : Str) := sixK_ok _ (by decide +kernel)
  have kb : okK ("b" : Str) := sixK_ok _ (by decide +kernel)
  have oAB : OkM 12 mAB := okI ka kb (by decide +kernel) (by decide) (by decide)
  have oBA : OkM 12 mBA := okI kb ka (by decide +kernel) (by decide) (by decide)
  refine ⟨d8, d9, d10, mAB, mAB, mBA, rfl, ⟨_, .inl f8, .cons ⟨rfl, .inl rfl⟩ (.cons ⟨rfl, .inl rfl⟩ .nil)⟩, ⟨_, .inl f9, .cons ⟨rfl, .inl rfl⟩ (.cons ⟨rfl, .inl rfl⟩ .nil)⟩, ⟨_, .inl f10, .cons ⟨rfl, .inl rfl⟩ (.cons ⟨rfl, .inl rfl⟩ .nil)⟩, oAB, oAB, oBA, fun H15 r2 s15 _ hm => ?_, fun H15 d tp ks' _ _ hcf hne _ _ _ => hne (no_cf (fun k => by unfold cf; rw [ch_self, Bool.false_and]) hcf)⟩
  rw [mrg_abba] at hm
  obtain ⟨ks, hrk, hkv⟩ := hm
  refine ⟨r2, ks, rfl, (rdS_of fr_sub).rd r2 _ rfl hrk, fun q1 hq1 => ⟨l2_line, fun q2 hq2 => ?_⟩⟩
  rw [kvd_strs hkv] at hq2 ⊢
  have g1 := same_upd (o := .lst [.str "a", .str "b"]) hq2 q1 _ upd_same
  have gl : ∀ k ∈ keys mAB, okS k := fun k hk => by
    rcases List.mem_cons.mp hk with rfl | hk
    · exact ka.1
    · rw [List.mem_singleton.mp hk]; exact kb.1
  refine ⟨_, _, dp_strs (ks := keys mAB) (SqL.of g1), dp_strs (ks := keys mAB) (SqL.of upd_same), shaped_strs _ gl, shaped_strs _ gl, ?_⟩
  rw [eqv_keys, decide_eq_true rfl]
  exact q _
end
end Mw

end

section
set_option Elab.async false
set_option linter.all false
set_option maxRecDepth 100000
set_option maxHeartbeats 16000000
/-! law: the loop. -/
namespace Mw
open PySem PySem.Spec PyProof.Rows L2
theorem sqL_same {K : PySem.W.Frag} {H H' : Hp} {a : Addr} {xs : List V} (s : Same H H') (h : SqL K H a xs) : SqL K H' a xs := by
  rcases h with h | h
  · rcases h with h | ⟨o, h⟩
    · exact .inl (.inl (s _ _ h))
    · exact .inl (.inr ⟨o, s _ _ h⟩)
  · exact .inr h
theorem same_ev {S : Addr} {H G G' : Hp} (s : Same H G) (hS : H S = none) (e : Ev S G G') : Same H G' := fun b o h => e.at (ne_of_none h hS) (s b o h)
theorem ev_same {S : Addr} {G G' : Hp} (hS : Src G S) (s : Same G G') : Ev S G G' := by
  obtain ⟨x, y, h⟩ := hS
  exact ⟨hid_mono fun b o _ e => s b o e, x, y, s _ _ h⟩
theorem paired_memR {α β : Type} {F : α → β → Prop} {a : List α} {b : List β} (h : Paired F a b) : ∀ y ∈ b, ∃ x, x ∈ a ∧ F x y := by
  induction h with
  | nil => exact fun _ z => nomatch z
  | cons q _ ih =>
    intro y hy
    rcases List.mem_cons.mp hy with rfl | hy
    · exact ⟨_, List.mem_cons_self, q⟩
    · obtain ⟨x, hx, hf⟩ := ih y hy
      exact ⟨x, List.mem_cons_of_mem _ hx, hf⟩
theorem two_of {ts : List Addr} (h : ts.length = 2) : ∃ t0 t1, ts = [t0, t1] := by
  match ts, h with
  | [t0, t1], _ => exact ⟨t0, t1, rfl⟩
theorem two_paired {F : Addr → Mp → Prop} {t0 t1 : Addr} {ms : List Mp} (h : Paired F [t0, t1] ms) : ∃ m0 m1, ms = [m0, m1] ∧ F t0 m0 ∧ F t1 m1 := by
  cases h with
  | cons q t =>
    cases t with
    | cons q2 t2 =>
      cases t2
      exact ⟨_, _, rfl, q, q2⟩
theorem ne_of_none' {H : Hp} {a b : Addr} {o : HO} (h : H a = none) (h' : H b = some o) : a ≠ b := fun z => by
  rw [z, h'] at h
  cases h
theorem okM_done {a b : Nat} {m : Mp} {ds : List Deed} {G : Hp} {ts : List Addr} (o : OkM a m) (h : Paired (DeedAt G) ts ds) (hl : ds.length ≤ b) : OkM (a + b) (doneM m ds) where
  nd := nd_done ds o.nd
  len := by have := len_done ds m; have := o.len; omega
  key := fun p hp => by
    rcases mem_done ds hp with z | ⟨k, v, hm, rfl⟩
    · exact o.key p z
    · obtain ⟨t, _, ht⟩ := paired_memR h _ hm
      obtain ⟨_, _, _, _, hk⟩ := ht
      exact hk
  val := fun p hp => by
    rcases mem_done ds hp with z | ⟨k, v, hm, rfl⟩
    · exact o.val p z
    · obtain ⟨t, _, ht⟩ := paired_memR h _ hm
      obtain ⟨_, _, _, hg, _⟩ := ht
      exact hg
/-- all but the source S and the list So -/
def GG (S So : Addr) (H : Hp) : Hp := hid So (hid S H)
theorem GG_at {S So b : Addr} {H : Hp} {o : HO} (h : GG S So H b = some o) : b ≠ So ∧ b ≠ S ∧ H b = some o := by
  unfold GG at h
  have h1 : b ≠ So := fun z => by rw [z, hid_same] at h; cases h
  rw [hid_ne h1] at h
  have h2 : b ≠ S := fun z => by rw [z, hid_same] at h; cases h
  rw [hid_ne h2] at h
  exact ⟨h1, h2, h⟩
theorem GG_of {S So b : Addr} {H : Hp} {o : HO} (h1 : b ≠ So) (h2 : b ≠ S) (h : H b = some o) : GG S So H b = some o := by
  unfold GG
  rw [hid_ne h1, hid_ne h2]
  exact h
theorem GG_ev {S So : Addr} {H H' : Hp} (e : Ev S H H') : Same (GG S So H) (GG S So H') := fun b o h => by
  obtain ⟨h1, h2, h3⟩ := GG_at h
  exact GG_of h1 h2 (e.at h2 h3)
theorem GG_upd {S So : Addr} {H : Hp} {o : HO} : Same (GG S So H) (GG S So (upd H So o)) := fun b u h => by
  obtain ⟨h1, h2, h3⟩ := GG_at h
  exact GG_of h1 h2 (by rw [upd_ne h1]; exact h3)
theorem GG_sub {S So : Addr} {H : Hp} : Same (GG S So H) H := fun b o h => (GG_at h).2.2
theorem GG_fr {S So : Addr} {H H' : Hp} (hS : H S ≠ none) (hSo : H So ≠ none) : Same (fr H H') (GG S So H') := fun b o h => by
  unfold fr at h
  by_cases hb : H b = none
  · rw [if_pos hb] at h
    exact GG_of (fun z => hSo (by rw [← z]; exact hb)) (fun z => hS (by rw [← z]; exact hb)) h
  · rw [if_neg hb] at h; cases h
theorem far_reading {S : Addr} {σ : L2.St} {H : Hp} {Q : VK} (h2 : σ[2]? = some (some (.ref S))) (hS : Src H S) (q : ∀ H' far mf, Ev S H H' → MapAt (fr H H') far mf → OkM 12 mf → Q (.ref far) H') :
    tIf (tTest (tOp rEq (tCall spPk [] E0 (tCons (tVar 2) (tCons (tC (.int 4)) tNil))) (tC (.int 0)))) (tCall spMa [] E0 (tCons (tVar 2) (tCons (tC (.int 5)) tNil))) tDNewK σ H Q := by
  refine ⟨_, h2, S, 4, rfl, by decide, by decide, hS, fun c x y c0 c4 => ⟨rfl, _, rfl, ?_⟩⟩
  have e1 : Ev S H (upd H S (.lst [.int x, .int y])) := ev_src
  by_cases hc : c = 0
  · refine ifT (decide_eq_true (by rw [hc])) ⟨_, h2, S, rfl, e1.src, fun H' r m e hm om _ => q H' r m (e1.trans e) ?_ (om.mono (by decide))⟩
    rw [← fr_upd_dom hS.some (o := .lst [.int x, .int y])]
    exact hm
  · refine ifF (decide_eq_false fun z => hc (V.int.inj z)) fun p hp => ?_
    exact q _ p [] (e1.trans (ev_new e1.src hp)) ⟨[], .inl (by rw [fr_new (e1.free hS hp), upd_same]), .nil⟩ ⟨.nil, by decide, (fun _ z => nomatch z), (fun _ z => nomatch z)⟩
section
variable {w : World} {K : PySem.W.Frag} {mg : Str → Option Value} {base : Heap} {f fn fsr fp fma fde fdn fri C fI : Addr} {fd fnd fsrd fpd fmad fded fdnd frid : FuncData}
theorem ok_law (F : Df K mg "law" sLw ["_law_script"] f fd) (B : Bi mg) (N' : Df K mg "merged" sMg ["base", "one", "other"] fn fnd) (GN : FnOk pW w K mg base (L2.CX pW w) 8 fn fnd ["base", "one", "other"] (spMg C))
    (S' : Df K mg "_law_source" sSr ["_law_script", "_law_k"] fsr fsrd) (GS : FnOk pW w K mg base CX0 1 fsr fsrd ["_law_script", "_law_k"] (spSr K)) (P' : Df K mg "_law_pick" sPk ["_law_source_here", "_law_amount"] fp fpd) (GP : FnOk pW w K mg base CX0 1 fp fpd ["_law_source_here", "_law_amount"] spPk)
    (M' : Df K mg "_law_mapping" sMa ["_law_source_here", "_law_most"] fma fmad) (GM : FnOk pW w K mg base CX0 5 fma fmad ["_law_source_here", "_law_most"] spMa) (E' : Df K mg "_law_deeds" sDe ["_law_source_here", "_law_most"] fde fded) (GE : FnOk pW w K mg base CX0 5 fde fded ["_law_source_here", "_law_most"] spDe)
    (D' : Df K mg "_law_done" sDn ["_law_mapping_here", "_law_deeds_here"] fdn fdnd) (GD : FnOk pW w K mg base CX0 1 fdn fdnd ["_law_mapping_here", "_law_deeds_here"] spDn) (R' : Df K mg "_law_right" sRi ["_law_base", "_law_one", "_law_other"] fri frid) (GR : FnG pW w K mg base CX0 11 fri frid ["_law_base", "_law_one", "_law_other"] spRi) :
    FnG pW w K mg base CX0 12 f fd ["_law_script"] (spLaw K) := by
  refine fn0G F.fn scLw (fun vs H Q E h => ?_) (fun cdv A outer s H vs Q E hG hr h => ?_)
  · obtain ⟨a, ns, rfl, _⟩ := h
    rfl
  · obtain ⟨a, ns, rfl, ha, hl, q⟩ := h
    have hu := hu_of hr
    have hr1 := hr.mono (by decide : 1 ≤ 11)
    have hr5 := hr.mono (by decide : 5 ≤ 11)
    have hu70 : (A.deeper (envOfC "law" (defScope sLw) s.heap.objs.size f cdv)).units + 70 < cLine := by have := hr.un; omega
    obtain ⟨tt, htt, htail⟩ := law_tail B N' GN (outer := outer) (s := s) (H0 := H) (E := E) hr
    refine ⟨_, pss_cons (ps_for PassesOwn.never rfl (pi_range1 (by rfl) B.range (pa_cons (pe_callB (call_max2 rfl) (by rfl) B.max (by decide +kernel) (pa_cons pe_int (pa_cons (pe_callB (call_min2 rfl) (by rfl) B.min (by decide +kernel) (pa_cons (pe_callB call_len_seq (by rfl) B.len PySem.boot_len (pa_cons (pv 0) pa_nil)) (pa_cons pe_int pa_nil))) pa_nil))) pa_nil)) (pg_name (i := 1) scLw.nd rfl (Or.inl rfl))
      (pss_cons (ps_set (i := 2) scLw.nd rfl (Or.inl rfl) (pe_call GS hr1 rfl S'.m S'.fn.kp S'.b .nil pass0 (pa_cons (pv 0) (pa_cons (pv 1) pa_nil))))
      (pss_one (ps_for PassesOwn.never rfl (pi_range1 (by rfl) B.range (pa_cons pe_int pa_nil)) (pg_name (i := 3) scLw.nd rfl (Or.inl rfl))
        (pss_cons (ps_set (i := 4) scLw.nd rfl (Or.inl rfl) (pe_call GM hr5 rfl M'.m M'.fn.kp M'.b .nil pass0 (pa_cons (pv 2) (pa_cons pe_int pa_nil))))
        (pss_cons (ps_set (i := 5) scLw.nd rfl (Or.inl rfl) (pe_lst pa_nil))
        (pss_cons (ps_for PassesOwn.never rfl (pi_range1 (by rfl) B.range (pa_cons pe_int pa_nil)) (pg_name (i := 6) scLw.nd rfl (Or.inl rfl))
          (pss_cons (ps_set (i := 7) scLw.nd rfl (Or.inl rfl) (pe_call GD hr1 rfl D'.m D'.fn.kp D'.b .nil pass0 (pa_cons (pv 4) (pa_cons (pe_call GE hr5 rfl E'.m E'.fn.kp E'.b .nil pass0 (pa_cons (pv 2) (pa_cons pe_int pa_nil))) pa_nil))))
          (pss_cons (ps_set (i := 8) scLw.nd rfl (Or.inl rfl) (pe_ifExp (pt_cmpR op_eq (pe_call GP hr1 rfl P'.m P'.fn.kp P'.b .nil pass0 (pa_cons (pv 2) (pa_cons pe_int pa_nil))) pe_int (nomark _)) (pe_call GM hr5 rfl M'.m M'.fn.kp M'.b .nil pass0 (pa_cons (pv 2) (pa_cons pe_int pa_nil))) pe_dnewK))
          (pss_one (ps_expr (pe_bm PySem.F.plainAttrs_list PySem.F.slot_list_append PySem.F.type_list_append mt_append (pv 5) (pa_cons (pe_ifExp (pt_cmpR (op_neDV hu70) (pv 8) pe_dnewK (nomark _)) (pv 8)
              (pe_callTy (call_dictP rfl) (by rfl) B.dict (by decide +kernel) (pa_cons (pe_lc (own := [("_law_pair", 9)]) (g := gName 9) (tt := tYes) rfl scLw.nd (pi_list (pv 7)) (blkOk_by (N := nLw) (sc := defScope sLw) (by decide +kernel))
                (fun _ _ _ _ _ => pg_name (i := 9) scLw.nd rfl (Or.inl rfl)) (fun _ _ _ _ _ => pts_nil) (fun _ _ _ _ _ => pe_tup (pa_cons (pe_ix (ix_listK (K := K) rfl) (pv 9) pe_int (fun _ _ => rfl)) (pa_cons (pe_ix (ix_listK (K := K) rfl) (pv 9) pe_int (fun _ _ => rfl)) pa_nil)))) pa_nil))) pa_nil)))))))
        (pss_one (ps_if (pt_not (pt_val (pe_callG GR hG hr rfl R'.m R'.fn.kp R'.b .nil pass0 (pa_cons (pv 4) (pa_cons (pe_ix ix_list (pv 5) pe_int (fun _ _ => rfl)) (pa_cons (pe_ix ix_list (pv 5) pe_int (fun _ _ => rfl)) pa_nil)))))) (pss_one (ps_ret pe_bl)) pss_nil)))))))))
      htt, ?_⟩
    have bnd : ∀ L : Int, 0 ≤ L → (if (if (8 : Int) < L then 8 else L) > 1 then (if (8 : Int) < L then 8 else L) else 1) ≤ 8 ∧ 1 ≤ (if (if (8 : Int) < L then 8 else L) > 1 then (if (8 : Int) < L then 8 else L) else 1) := fun L h => by
      split <;> split <;> omega
    obtain ⟨bn8, bn1⟩ := bnd ((ns.map V.int).length : Int) (Int.natCast_nonneg _)
    refine ⟨_, rfl, a, _, rfl, .inl ha, _, _, rfl, _, _, rfl, _, rfl, by omega, by omega, ?_⟩
    generalize (if (if (8 : Int) < ((ns.map V.int).length : Int) then 8 else ((ns.map V.int).length : Int)) > 1 then (if (8 : Int) < ((ns.map V.int).length : Int) then 8 else ((ns.map V.int).length : Int)) else 1) = nk at bn8 bn1 ⊢
    refine for_range (fun i σ Hx => ∃ x1 x2 x3 x4 x5 x6 x7 x8 x9 x10 x11 x12, σ = [some (.ref a), x1, x2, x3, x4, x5, x6, x7, x8, x9, x10, x11, x12] ∧ Same H Hx)
      ⟨_, _, _, _, _, _, _, _, _, _, _, _, rfl, fun _ _ z => z⟩ ?_ ?_
    · rintro i σ Hx hi ⟨x1, x2, x3, x4, x5, x6, x7, x8, x9, x10, x11, x12, rfl, sx⟩
      have hi8 : i < 64 := by
        have : i < nk.toNat := hi
        omega
      refine ⟨_, rfl, _, rfl, a, i, ns, by rw [Int.zero_add]; rfl, hi8, sqL_same sx ha, fun S sx0 sy0 hSn => ?_⟩
      have hSH : H S = none := sx.free hSn
      have s1 : Same H (upd Hx S (.lst [.int sx0, .int sy0])) := sx.trans (same_upd hSn)
      have r1 : Src (upd Hx S (.lst [.int sx0, .int sy0])) S := ⟨_, _, upd_same⟩
      generalize upd Hx S (.lst [.int sx0, .int sy0]) = H1 at s1 r1 ⊢
      refine ⟨4, rfl, by decide, by decide, for_range (fun j σ Hy => ∃ x1 x3 x4 x5 x6 x7 x8 x9 x10 x11 x12, σ = [some (.ref a), x1, some (.ref S), x3, x4, x5, x6, x7, x8, x9, x10, x11, x12] ∧ Same H Hy ∧ Src Hy S)
        ⟨_, _, _, _, _, _, _, _, _, _, _, rfl, s1, r1⟩ ?_ ?_⟩
      · rintro j σ Hy hj ⟨x1, x3, x4, x5, x6, x7, x8, x9, x10, x11, x12, rfl, sy, ry⟩
        refine ⟨_, rfl, S, rfl, ry, fun H2 b m e2 hb om hbn => ?_⟩
        refine ⟨l0_line, fun So hSo => ?_⟩
        have s2 := same_ev sy hSH e2
        have hSS : So ≠ S := e2.src.ne hSo
        have e3 : Ev S H2 (upd H2 So (.lst [])) := ev_new e2.src hSo
        have hSoH : H So = none := s2.free hSo
        have s3 := same_ev s2 hSH e3
        have g3 : Same (fr Hy H2) (GG S So (upd H2 So (.lst []))) := fun c o h => by
          have hc : H2 c = some o := fr_sub c o h
          have hcSo : c ≠ So := ne_of_none hc hSo
          have hcS : c ≠ S := fun z => by
            obtain ⟨u, v, h'⟩ := ry
            rw [z, fr_old h'] at h
            cases h
          exact GG_of hcSo hcS (by rw [upd_ne hcSo]; exact hc)
        have hb3 : MapAt (GG S So (upd H2 So (.lst []))) b m := hb.mono (rdS_of g3)
        have hSo3 : upd H2 So (.lst []) So = some (.lst []) := upd_same
        have r3 := e3.src
        generalize upd H2 So (.lst []) = H3 at hb3 hSo3 r3 s3 ⊢
        clear e3 g3
        refine ⟨2, rfl, by decide, by decide, for_range (fun n σ Hz => ∃ x1 x3 x6 x7 x8 x9 x10 x11 x12 ts ms, σ = [some (.ref a), x1, some (.ref S), x3, some (.ref b), some (.ref So), x6, x7, x8, x9, x10, x11, x12] ∧ Same H Hz ∧ Src Hz S ∧ MapAt (GG S So Hz) b m ∧
            Hz So = some (.lst (ts.map V.ref)) ∧ Paired (fun t mt => MapAt (GG S So Hz) t mt ∧ OkM 12 mt) ts ms ∧ ts.length = n)
          ⟨_, _, _, _, _, _, _, _, _, [], [], rfl, s3, r3, hb3, hSo3, .nil, rfl⟩ ?_ ?_⟩
        · rintro n σ Hz hn ⟨x1, x3, x6, x7, x8, x9, x10, x11, x12, ts, ms, rfl, sz, rz, hbz, hSoz, hpz, htl⟩
          have hSoS : Hz So ≠ none := by rw [hSoz]; exact fun z => nomatch z
          have hn2 : n < 2 := hn
          -- the deeds
          refine ⟨_, rfl, _, rfl, S, rfl, rz, fun H4 p tds ds e4 hpn hp4 hd4 hdl => ?_⟩
          have g4 : Same (fr Hz H4) (GG S So H4) := GG_fr rz.some hSoS
          have gz4 := GG_ev (So := So) e4
          have hSo4 := e4.at hSS hSoz
          have hb4 := hbz.mono (rdS_of gz4)
          have hp4s := Paired.mapP hpz fun t mt h => (⟨h.1.mono (rdS_of gz4), h.2⟩ : MapAt (GG S So H4) t mt ∧ OkM 12 mt)
          have hdd := Paired.mapP hd4 fun t d h => h.mono (rdS_of g4)
          have om8 : OkM 12 (doneM m ds) := (okM_done om hdd hdl).mono (by decide)
          refine ⟨b, p, m, tds, ds, GG S So H4, rfl, GG_sub, hb4, om.mono (by decide), hp4, hdd, by omega, fun H5 r5 s5 hr5n ⟨ts5, hr5, hpr5⟩ => ?_⟩
          have e5 := ev_same e4.src s5
          have e45 := e4.trans e5
          have gz5 := GG_ev (So := So) e5
          have hSo5 := s5 _ _ hSo4
          have r5S : r5 ≠ S := e4.src.ne hr5n
          have r5So : r5 ≠ So := ne_of_none' hr5n hSo4
          dsimp only [tSeq, tAsg, gName]
          refine far_reading rfl e5.src fun H6 far mf e6 hfar of => ?_
          have e46 := e45.trans e6
          have sz6 := same_ev sz hSH e46
          have hSo6 := e6.at hSS hSo5
          have hr6 := e6.at r5S hr5
          have hfar6 : MapAt (GG S So H6) far mf := hfar.mono (rdS_of (GG_fr e5.src.some (by rw [hSo5]; exact fun z => nomatch z)))
          have g46 := (gz5.trans (GG_ev (So := So) e6))
          have hb6 := hb4.mono (rdS_of g46)
          have hp6 := Paired.mapP hp4s fun t mt h => (⟨h.1.mono (rdS_of g46), h.2⟩ : MapAt (GG S So H6) t mt ∧ OkM 12 mt)
          obtain ⟨kf, hrf, hvf⟩ := hfar6
          have htl40 : (ts.map V.ref).length < sizeLine := by rw [List.length_map]; exact lt_line (by omega)
          refine ⟨_, rfl, .inl ⟨rfl, _, SqL.of hSo6⟩, _, rfl, fun e he => ⟨far, e, kf, [], rfl, rfl, ((rdS_of GG_sub).trans (rdS_of (same_upd he))).rd far _ rfl hrf, .inl upd_same, fun hl0 pq hpq => ?_, _, rfl, ?_⟩⟩
          · have e0 : kf = [] := List.length_eq_zero_iff.mp hl0
            rw [e0] at hpq
            cases hpq
          have s7 : Same H6 (upd H6 e (.dK [])) := same_upd he
          have e7 := ev_same e6.src s7
          have sz7 := same_ev sz6 hSH e7
          have gz7 := GG_ev (So := So) e7
          have hSo7 := s7 _ _ hSo6
          have hr7 := s7 _ _ hr6
          have hb7 := hb6.mono (rdS_of gz7)
          have hp7 := Paired.mapP hp6 fun t mt h => (⟨h.1.mono (rdS_of gz7), h.2⟩ : MapAt (GG S So (upd H6 e (.dK []))) t mt ∧ OkM 12 mt)
          have hfar7 : MapAt (GG S So (upd H6 e (.dK []))) far mf := MapAt.mono (rdS_of gz7) ⟨kf, hrf, hvf⟩
          have g47 := g46.trans gz7
          generalize upd H6 e (.dK []) = H7 at s7 e7 sz7 gz7 hSo7 hr7 hb7 hp7 hfar7 g47 ⊢
          -- what is laid behind
          have fin : ∀ {H8 : Hp} {t : Addr} {mt : Mp}, Same H7 H8 → MapAt (GG S So H8) t mt → OkM 12 mt → Same H (upd H8 So (.lst (ts.map V.ref ++ [.ref t]))) ∧ Src (upd H8 So (.lst (ts.map V.ref ++ [.ref t]))) S ∧ MapAt (GG S So (upd H8 So (.lst (ts.map V.ref ++ [.ref t])))) b m ∧
              upd H8 So (.lst (ts.map V.ref ++ [.ref t])) So = some (.lst ((ts ++ [t]).map V.ref)) ∧ Paired (fun t' mt' => MapAt (GG S So (upd H8 So (.lst (ts.map V.ref ++ [.ref t])))) t' mt' ∧ OkM 12 mt') (ts ++ [t]) (ms ++ [mt]) := fun {H8 t mt} s8 ht ot => by
            have e8 := ev_same e7.src s8
            have g8 := (GG_ev (So := So) e8).trans (GG_upd (o := .lst (ts.map V.ref ++ [.ref t])))
            refine ⟨fun b' o h => ?_, e8.src.upd hSS, hb7.mono (rdS_of g8), ?_, paired_app (Paired.mapP hp7 fun t' mt' h => ⟨h.1.mono (rdS_of g8), h.2⟩) ⟨ht.mono (rdS_of GG_upd), ot⟩⟩
            · rw [upd_ne (ne_of_none h hSoH)]
              exact s8 _ _ (sz7 _ _ h)
            · rw [upd_same, List.map_append]
              rfl
          by_cases hkf : kf = []
          · refine ifF (by rw [hkf]; rfl) ?_
            refine ⟨_, rfl, r5, rfl, ⟨_, SqL.of hr7⟩, fun D hD => ?_⟩
            have l5 : ts5.length = List.length (doneM m ds) := Paired.length hpr5
            have l8 := om8.len
            have hts7 : Paired (PairI (GG S So H4) H7) ts5 (doneM m ds) := Paired.mapP hpr5 fun t x h => by
              have hne : t ≠ S := fun z => by
                obtain ⟨v, h1, _⟩ := h
                obtain ⟨u1, u2, h'⟩ := e5.src
                rw [z, h'] at h1
                cases h1
              obtain ⟨v, h1, h2⟩ := h
              exact ⟨v, s7 _ _ (e6.at hne h1), h2⟩
            have nd8 := om8.nd
            generalize hmd : doneM m ds = md at hts7 l5 l8 nd8 om8 hpr5
            refine lc_gen gen_list hD (fun H s' => SqL.of (s' _ _ hr7)) (fun i Gx y => ∃ t, y = V.ref t ∧ ∀ x, md[i]? = some x → TupI (GG S So H4) Gx t x) (fun _ => true) (fun i Gx G' y s' ⟨t, e, h⟩ => ⟨t, e, fun x hx => (h x hx).mono s'⟩) (by rw [List.length_map]; omega) ?_ ?_
            · rintro i' x H13 acc Nx hi' hx s13 hacc _ nx
              obtain ⟨t, ht, rfl⟩ := map_at hx
              obtain ⟨y, hy, v, hv, hdv⟩ := paired_get hts7 ht
              refine ⟨rfl, ifT (B := Nx H13) rfl ?_⟩
              refine ⟨_, rfl, t, _, _, _, rfl, rfl, SqL.of (s13 _ _ hv), atI_nat (j := 0) rfl, _, rfl, t, _, _, _, rfl, rfl, SqL.of (s13 _ _ hv), atI_nat (j := 1) rfl, l2_line, fun t2 ht2 => ?_⟩
              refine nx (.ref t2) _ (same_upd ht2) rfl ⟨t2, rfl, fun x hx2 => ?_⟩
              rw [hy] at hx2; cases hx2
              exact ⟨v, by rw [hid_ne (ne_of_none hacc ht2).symm, upd_same], hdv⟩
            intro H13 acc s13 hD13 out
            obtain ⟨hal, hall⟩ := out_all out
            rw [List.length_map] at hal
            have pr : Paired (fun y x => ∃ t, y = V.ref t ∧ TupI (GG S So H4) (hid D H13) t x) acc md := paired_ix2 (by omega) fun i y x h1 h2 => by
              obtain ⟨t, e, h⟩ := hall i y h1
              exact ⟨t, e, h x h2⟩
            obtain ⟨ts0, rfl, hts0⟩ := refs_paired pr
            obtain ⟨kvs, hkp, hkv⟩ := tups_kv (Paired.mapP hts0 fun t x h => h.mono (rdS_of hid_sub))
            refine ⟨D, ts0, kvs, rfl, SqL.of hD13, Paired.mapP hkp fun _ _ h => SqT.of h, fun rn hrn => ?_⟩
            have s14 : Same H7 (upd H13 rn (.dK (mergeK [] kvs))) := s13.trans (same_upd hrn)
            have e14 := ev_same e7.src s14
            have hrS : rn ≠ S := (ev_same e7.src s13).src.ne hrn
            have hrSo : rn ≠ So := ne_of_none' hrn (s13 _ _ hSo7)
            have hm14 : MapAt (GG S So (upd H13 rn (.dK (mergeK [] kvs)))) rn md := ⟨_, .inl (GG_of hrSo hrS upd_same), (kvd_dict hkv nd8).mono (rdS_of (g47.trans (GG_ev (So := So) e14)))⟩
            obtain ⟨f1, f2, f3, f4, f5⟩ := fin s14 hm14 om8
            exact ⟨So, _, _, rfl, rfl, s14 _ _ hSo7, htl40, _, _, _, _, _, _, _, _, _, ts ++ [rn], ms ++ [md], rfl, f1, f2, f3, f4, f5, by rw [List.length_append, htl]; rfl⟩
          · refine ifT ?_ ?_
            · cases kf with
              | nil => exact absurd rfl hkf
              | cons _ _ => rfl
            obtain ⟨f1, f2, f3, f4, f5⟩ := fin (fun _ _ z => z) hfar7 of
            exact ⟨_, rfl, So, _, _, rfl, rfl, hSo7, htl40, _, _, _, _, _, _, _, _, _, ts ++ [far], ms ++ [mf], rfl, f1, f2, f3, f4, f5, by rw [List.length_append, htl]; rfl⟩
        · rintro σ Hz ⟨x1, x3, x6, x7, x8, x9, x10, x11, x12, ts, ms, rfl, sz, rz, hbz, hSoz, hpz, htl⟩
          obtain ⟨t0, t1, rfl⟩ := two_of htl
          obtain ⟨m0, m1, rfl, ⟨h0, o0⟩, ⟨h1, o1⟩⟩ := two_paired hpz
          refine ⟨_, rfl, _, rfl, So, _, _, _, rfl, rfl, SqL.of hSoz, atI_nat (j := 0) rfl, _, rfl, So, _, _, _, rfl, rfl, SqL.of hSoz, atI_nat (j := 1) rfl, b, t0, t1, m, m0, m1, rfl, hbz.mono (rdS_of GG_sub), h0.mono (rdS_of GG_sub), h1.mono (rdS_of GG_sub), om.mono (by decide), o0, o1, fun H' s' => ⟨_, rfl, iteF ?_⟩⟩
          exact ⟨_, _, _, _, _, _, _, _, _, _, _, rfl, sz.trans s', (ev_same rz s').src⟩
      · rintro σ Hy ⟨x1, x3, x4, x5, x6, x7, x8, x9, x10, x11, x12, rfl, sy, ry⟩
        exact ⟨_, _, _, _, _, _, _, _, _, _, _, _, rfl, sy⟩
    · rintro σ Hx ⟨x1, x2, x3, x4, x5, x6, x7, x8, x9, x10, x11, x12, rfl, sx⟩
      exact htail _ Hx _ _ _ _ _ _ _ _ _ _ _ _ _ q
end
end Mw

end

section
set_option Elab.async false
set_option linter.all false
set_option maxRecDepth 100000
set_option maxHeartbeats 4000000
/-! The head, for a promise that asks for no guard. -/
namespace Mw
open PySem PySem.Spec PyProof.Rows L2
section
variable {P : Program} {w : World} {K : PySem.W.Frag} {mg mb : Str → Option Value} {k : Nat} {fa a : Addr} {fd : FuncData} {x : Str} {sp : Sp} {s₁ : Shared} {vs : List Value} {ns : List Int}
/-- from an abstract heap that tracks at most the script -/
theorem law_core (KX : K.In s₁.heap) (hns : s₁.heap.Ns mainGlobals mg) (hb : s₁.heap.Ns builtinsNs mb) (hbb : ∀ x : Str, x ≠ "__name__" → mb x = bootBuiltins x) (hlim : s₁.heap.NoLimit) (hg : s₁.gens = #[])
    (ha : s₁.heap.get? a = some { cls := .type "list", data := .seq vs.toArray }) (hr : Room k callerA)
    (F : ∀ base : Heap, K.In base → base.Ns mainGlobals mg → FnG P w K mg base CX0 k fa fd [x] sp) (hbind : ∀ (s : Shared) (u : Value), BindsTo s fd ⟨[u], []⟩ [(x, u)])
    {H : Hp} (hO : Only H) (hok : HOk P w H s₁.heap) (hA : ∀ b, H b ≠ none → b = a) (hK : H a ≠ none → K.lookup a = none) (hsp : sp [.ref a] H (fun v _ => v = .bl true) fun _ _ _ => False) :
    codeAny (model P w) callerA (.call (.ref fa) ⟨[.ref a], []⟩) (fun r s' => r = .ok (.ret (.bool true)) ∧ OldK s₁.heap s'.heap ∧ s'.os = s₁.os ∧ AllBare s'.gens) s₁ := by
  have other : ∀ {b : Addr} {o : Obj}, s₁.heap.get? b = some o → b ≠ a → (hidT s₁.heap H).get? b = some o := fun {b o} e hb => hidT_get e (by
    cases q : H b with
    | none => rfl
    | some u => exact absurd (hA b (by rw [q]; exact fun z => nomatch z)) hb)
  have nsK : ∀ {b : Addr} {m : Str → Option Value}, s₁.heap.Ns b m → (hidT s₁.heap H).Ns b m := fun {b m} ⟨o, es, ep, e, d, r⟩ => ⟨o, es, ep, other e (fun z => by
    rw [z, ha] at e
    cases e
    cases d), d, r⟩
  have hKb : K.In (hidT s₁.heap H) := fun b o e => by
    by_cases hb : b = a
    · subst hb
      refine hidT_get (KX b o e) ?_
      cases q : H b with
      | none => rfl
      | some u => rw [hK (by rw [q]; exact fun z => nomatch z)] at e; cases e
    · exact other (KX b o e) hb
  obtain ⟨mc, l1, l2⟩ := hlim
  have e0 : Env0 P w K mg (hidT s₁.heap H) callerA [] s₁ H := ⟨rfl, ⟨hKb, nsK hns, ⟨mb, nsK hb, hbb⟩, mc, nsK l1, l2⟩, fun b o e => of_hidT e, Nat.le_of_eq (hidT_size _ _), trivial, (fun b hb => nomatch (show b ∈ ([] : List Addr) from hb)), hok, .of_eq hg⟩
  refine codeAny_mono ((F _ hKb (nsK hns)).run callerA [] s₁ H ⟨[.ref a], []⟩ [.ref a] [.ref a] _ _ rfl hr e0 (hbind s₁ (.ref a)) (.cons rfl .nil) hsp) fun r s' h => ?_
  match r, h with
  | .error e, h => exact False.elim h
  | .ok .next, h => exact False.elim h
  | .ok .brk, h => exact False.elim h
  | .ok .cont, h => exact False.elim h
  | .ok (.ret u), h =>
    obtain ⟨v, H', os, bare, un, hok', r', q⟩ := h
    cases (show v = .bl true from q)
    cases (show u = Value.bool true from r')
    refine ⟨rfl, OldK.of_keep fun b o e => ?_, os, bare⟩
    rcases hO b with z | ⟨ob, xs, z⟩
    · exact un.keep b o e z (fun y => nomatch (show b ∈ ([] : List Addr) from y)) (by simp)
    · obtain ⟨e1, _⟩ := hok b _ z
      obtain ⟨e2, _⟩ := hok' b _ (un.frzs b ob _ z)
      rw [e] at e1
      cases e1
      exact e2
theorem law_callG (KX : K.In s₁.heap) (hns : s₁.heap.Ns mainGlobals mg) (hb : s₁.heap.Ns builtinsNs mb) (hbb : ∀ x : Str, x ≠ "__name__" → mb x = bootBuiltins x) (hlim : s₁.heap.NoLimit) (hg : s₁.gens = #[])
    (ha : s₁.heap.get? a = some { cls := .type "list", data := .seq vs.toArray }) (hi : IntsAre vs ns) (hl : ns.length ≤ sizeLine) (hr : Room k callerA)
    (F : ∀ base : Heap, K.In base → base.Ns mainGlobals mg → FnG P w K mg base CX0 k fa fd [x] sp) (hbind : ∀ (s : Shared) (u : Value), BindsTo s fd ⟨[u], []⟩ [(x, u)])
    (hsp : ∀ H : Hp, Only H → SqL K H a (ns.map V.int) → sp [.ref a] H (fun v _ => v = .bl true) fun _ _ _ => False) :
    codeAny (model P w) callerA (.call (.ref fa) ⟨[.ref a], []⟩) (fun r s' => r = .ok (.ret (.bool true)) ∧ OldK s₁.heap s'.heap ∧ s'.os = s₁.os ∧ AllBare s'.gens) s₁ := by
  have rv := vals_ints hi
  have lenV := hi.length
  cases hk : K.lookup a with
  | some o =>
    have e := KX a o hk
    rw [ha] at e
    cases e
    have hO : Only fun _ => none := fun _ => .inl rfl
    exact law_core KX hns hb hbb hlim hg ha hr F hbind hO (fun b u z => nomatch z) (fun b z => absurd rfl z) (fun z => absurd rfl z)
      (hsp _ hO (.inr ⟨_, vs.toArray, _, hk, rfl, rfl, rfl, by rw [List.size_toArray, lenV]; exact hl, by simpa using rv⟩))
  | none =>
    have at_a : ∀ b, b ≠ a → upd (fun _ => none) a (.frz { cls := .type "list", data := .seq vs.toArray } (.lst (ns.map V.int))) b = none := fun b hb => upd_ne hb
    have hO : Only (upd (fun _ => none) a (.frz { cls := .type "list", data := .seq vs.toArray } (.lst (ns.map V.int)))) := fun b => by
      by_cases h : b = a
      · exact .inr ⟨_, _, by rw [h]; exact upd_same⟩
      · exact .inl (at_a b h)
    refine law_core KX hns hb hbb hlim hg ha hr F hbind hO (fun b u z => ?_) (fun b z => ?_) (fun _ => hk) (hsp _ hO (.inl (.inr ⟨_, upd_same⟩)))
    · by_cases h : b = a
      · subst h
        rw [upd_same] at z
        cases z
        exact ⟨ha, by rw [List.length_map]; exact hl, vs, _, rv, ha⟩
      · rw [at_a b h] at z
        cases z
    · by_cases h : b = a
      · exact h
      · exact absurd (at_a b h) z
end
/-- the goal that k_head leaves -/
theorem walk_ofG {l : PySem.W.OpenLaw} {n k : Nat} {q : Program} {loose : List Str} {XP : (Str → Option Value) → Heap → Prop} {YP : World → Heap → Prop} {d : DefRec} {K : Params → PySem.W.Frag} {sp : World → Sp} {x : Str}
    (hn : l.most = some n) (hn2 : n ≤ sizeLine) (hdf : d.params.defaults = []) (hr : Room k callerA)
    (hY : ∀ (w : World) (h : Heap), YP w h → (K w.params).In h)
    (F : ∀ (w : World) (mg : Str → Option Value) (fa : Addr) (h : Heap), (K w.params).In h → h.Ns mainGlobals mg → mg d.name = some (.ref fa) →
      ∃ fd : FuncData, (∀ (s : Shared) (u : Value), BindsTo s fd ⟨[u], []⟩ [(x, u)]) ∧
        ∀ base : Heap, (K w.params).In base → base.Ns mainGlobals mg → FnG l.prog w (K w.params) mg base CX0 k fa fd [x] (sp w))
    (hsp : ∀ (w : World) (H : Hp) (a : Addr) (ns : List Int), ns.length ≤ n → Only H → SqL (K w.params) H a (ns.map V.int) → sp w [.ref a] H (fun v _ => v = .bl true) fun _ _ _ => False) :
    PySem.W.WalkO q loose XP YP l.row.toRowW d [] (fun f vs => PySem.call f vs) := by
  refine Att.attach_call hn hdf fun w s₀ s₁ mg mb fa o pm cd doc a vs ns G Y ho hd hcd hmg hobj hints hlen hg => ?_
  obtain ⟨fd, hb, hF⟩ := F w mg fa _ (hY w _ Y) G.T.g hmg
  exact law_callG (hY w _ Y) G.T.g G.T.b G.T.builtins G.T.nolimit hg hobj hints (Nat.le_trans hlen hn2) hr hF hb fun H hO hS => hsp w H a ns hlen hO hS
end Mw

end

section
set_option Elab.async false
set_option linter.all false
set_option maxRecDepth 100000
set_option maxHeartbeats 16000000
/-! The end. -/
namespace Mw
open PySem PySem.Spec PyProof.Rows L2
theorem exm_self {K : PySem.W.Frag} {S : Addr} (h1 : PySem.W.subIn K (.ref S) (.type "BaseException") = some true) (h2 : PySem.W.isClsIn K S = true) (h3 : PySem.W.typeIn K (.ref S) = some (.type "type")) (h4 : PySem.W.subIn K (.ref S) (.ref S) = some true) :
    PySem.W.exmOne K (.ref S) (.ref S) = some true := by
  have e1 : (PySem.W.subIn K (.ref S) (.type "BaseException") == some true) = true := by rw [h1] <;> rfl
  have e2 : ((PySem.W.clsIn K S).isSome && PySem.W.typeIn K (.ref S) == some (.type "type")) = true := by
    have h2' : (PySem.W.clsIn K S).isSome = true := h2
    rw [h2', h3] <;> rfl
  show (if (PySem.W.subIn K (.ref S) (.type "BaseException") == some true) = true then (if ((PySem.W.clsIn K S).isSome && PySem.W.typeIn K (.ref S) == some (.type "type")) = true then PySem.W.subIn K (.ref S) (.ref S) else none) else none) = some true
  rw [if_pos e1, if_pos e2]
  exact h4
theorem all_mk {w : World} {K : PySem.W.Frag} {h : Heap} {mg : Str → Option Value} {fa : Addr} (X : K.In h) (G : h.Ns mainGlobals mg) (hfa : mg "law" = some (.ref fa))
    {f0 : Addr} {oc0 kV0 dc0 pm0 cd0 ct0 : Value} {od0 an0 : Option Addr} {sl0 : Array (Option Value)}
    {f1 : Addr} {oc1 kV1 dc1 pm1 cd1 ct1 : Value} {od1 an1 : Option Addr} {sl1 : Array (Option Value)}
    {f2 : Addr} {oc2 kV2 dc2 pm2 cd2 ct2 : Value} {od2 an2 : Option Addr} {sl2 : Array (Option Value)}
    {f3 : Addr} {oc3 kV3 dc3 pm3 cd3 ct3 : Value} {od3 an3 : Option Addr} {sl3 : Array (Option Value)}
    {f4 : Addr} {oc4 kV4 dc4 pm4 cd4 ct4 : Value} {od4 an4 : Option Addr} {sl4 : Array (Option Value)}
    {f5 : Addr} {oc5 kV5 dc5 pm5 cd5 ct5 : Value} {od5 an5 : Option Addr} {sl5 : Array (Option Value)}
    {f6 : Addr} {oc6 kV6 dc6 pm6 cd6 ct6 : Value} {od6 an6 : Option Addr} {sl6 : Array (Option Value)}
    {f7 : Addr} {oc7 kV7 dc7 pm7 cd7 ct7 : Value} {od7 an7 : Option Addr} {sl7 : Array (Option Value)}
    {f8 : Addr} {oc8 kV8 dc8 pm8 cd8 ct8 : Value} {od8 an8 : Option Addr} {sl8 : Array (Option Value)}
    {f9 : Addr} {oc9 kV9 dc9 pm9 cd9 ct9 : Value} {od9 an9 : Option Addr} {sl9 : Array (Option Value)}
    {f10 : Addr} {oc10 kV10 dc10 pm10 cd10 ct10 : Value} {od10 an10 : Option Addr} {sl10 : Array (Option Value)}
    {f11 : Addr} {oc11 kV11 dc11 pm11 cd11 ct11 : Value} {od11 an11 : Option Addr} {sl11 : Array (Option Value)}
    {f12 : Addr} {oc12 kV12 dc12 pm12 cd12 ct12 : Value} {od12 an12 : Option Addr} {sl12 : Array (Option Value)}
    {f13 : Addr} {oc13 kV13 dc13 pm13 cd13 ct13 : Value} {od13 an13 : Option Addr} {sl13 : Array (Option Value)}
    {f14 : Addr} {oc14 kV14 dc14 pm14 cd14 ct14 : Value} {od14 an14 : Option Addr} {sl14 : Array (Option Value)}
    {f15 : Addr} {oc15 kV15 dc15 pm15 cd15 ct15 : Value} {od15 an15 : Option Addr} {sl15 : Array (Option Value)}
    {f16 : Addr} {oc16 kV16 dc16 pm16 cd16 ct16 : Value} {od16 an16 : Option Addr} {sl16 : Array (Option Value)}
    {f17 : Addr} {oc17 kV17 dc17 pm17 cd17 ct17 : Value} {od17 an17 : Option Addr} {sl17 : Array (Option Value)}
    {f18 : Addr} {oc18 kV18 dc18 pm18 cd18 ct18 : Value} {od18 an18 : Option Addr} {sl18 : Array (Option Value)}
    {f19 : Addr} {oc19 kV19 dc19 pm19 cd19 ct19 : Value} {od19 an19 : Option Addr} {sl19 : Array (Option Value)}
    {f20 : Addr} {oc20 kV20 dc20 pm20 cd20 ct20 : Value} {od20 an20 : Option Addr} {sl20 : Array (Option Value)}
    {f21 : Addr} {oc21 kV21 dc21 pm21 cd21 ct21 : Value} {od21 an21 : Option Addr} {sl21 : Array (Option Value)}
    {f22 : Addr} {oc22 kV22 dc22 pm22 cd22 ct22 : Value} {od22 an22 : Option Addr} {sl22 : Array (Option Value)}
    {f23 : Addr} {oc23 kV23 dc23 pm23 cd23 ct23 : Value} {od23 an23 : Option Addr} {sl23 : Array (Option Value)}
    {f24 : Addr} {oc24 kV24 dc24 pm24 cd24 ct24 : Value} {od24 an24 : Option Addr} {sl24 : Array (Option Value)}
    {f25 : Addr} {oc25 kV25 dc25 pm25 cd25 ct25 : Value} {od25 an25 : Option Addr} {sl25 : Array (Option Value)}
    {f26 : Addr} {oc26 kV26 dc26 pm26 cd26 ct26 : Value} {od26 an26 : Option Addr} {sl26 : Array (Option Value)}
    {f27 : Addr} {oc27 kV27 dc27 pm27 cd27 ct27 : Value} {od27 an27 : Option Addr} {sl27 : Array (Option Value)}
    {f28 : Addr} {oc28 kV28 dc28 pm28 cd28 ct28 : Value} {od28 an28 : Option Addr} {sl28 : Array (Option Value)}
    {f29 : Addr} {oc29 kV29 dc29 pm29 cd29 ct29 : Value} {od29 an29 : Option Addr} {sl29 : Array (Option Value)}
    {f30 : Addr} {oc30 kV30 dc30 pm30 cd30 ct30 : Value} {od30 an30 : Option Addr} {sl30 : Array (Option Value)}
    {f31 : Addr} {oc31 kV31 dc31 pm31 cd31 ct31 : Value} {od31 an31 : Option Addr} {sl31 : Array (Option Value)}
    {f32 : Addr} {oc32 kV32 dc32 pm32 cd32 ct32 : Value} {od32 an32 : Option Addr} {sl32 : Array (Option Value)}
    {t_MOST_DIGITS t_MOST_ITEMS t_MOST_LEVELS t_MOST_KEY : Tok}
    {dE : Addr} {es : Array DictEntry} {nE : Nat} {y10 y34 y92 : Str} {u10 u34 u92 : Tok}
    {C fI cda cc : Addr} {nm qn : Str} {Nn : Addr} {bs bm : List Value} {sn : List Str} {sub : List Value} {ab : Bool} {col : Option Bool} {dd : Option Addr} {m0 m1 m2 m3 m5 : Option Value} {ocI kVI docI pmI ctI ccl cl : Value} {odI anI cdd cld : Option Addr} {oslI ccs csl : Array (Option Value)} {vsI : Array Value} {tf : Tok}
    (a0 : PySem.W.nsIn K mainGlobals "is_key" = some (some (.ref f0)))
    (l0 : K.lookup f0 = some ⟨oc0, od0, .func (PySem.W.fnOf "is_key" "is_key" (defArgs sIsKey) (defBody sIsKey) (defScope sIsKey) .none kV0 dc0 pm0 an0 cd0 ct0), sl0⟩)
    (c0 : PySem.W.codeIn K cd0 "is_key" = true)
    (k0 : PySem.W.keepIn K (.ref f0) = true)
    (a1 : PySem.W.nsIn K mainGlobals "items_of" = some (some (.ref f1)))
    (l1 : K.lookup f1 = some ⟨oc1, od1, .func (PySem.W.fnOf "items_of" "items_of" (defArgs sItems) (defBody sItems) (defScope sItems) .none kV1 dc1 pm1 an1 cd1 ct1), sl1⟩)
    (c1 : PySem.W.codeIn K cd1 "items_of" = true)
    (k1 : PySem.W.keepIn K (.ref f1) = true)
    (a2 : PySem.W.nsIn K mainGlobals "is_wrong_part" = some (some (.ref f2)))
    (l2 : K.lookup f2 = some ⟨oc2, od2, .func (PySem.W.fnOf "is_wrong_part" "is_wrong_part" (defArgs sWrong) (defBody sWrong) (defScope sWrong) .none kV2 dc2 pm2 an2 cd2 ct2), sl2⟩)
    (c2 : PySem.W.codeIn K cd2 "is_wrong_part" = true)
    (k2 : PySem.W.keepIn K (.ref f2) = true)
    (a3 : PySem.W.nsIn K mainGlobals "wrong_path" = some (some (.ref f3)))
    (l3 : K.lookup f3 = some ⟨oc3, od3, .func (PySem.W.fnOf "wrong_path" "wrong_path" (defArgs sWPath) (defBody sWPath) (defScope sWPath) .none kV3 dc3 pm3 an3 cd3 ct3), sl3⟩)
    (c3 : PySem.W.codeIn K cd3 "wrong_path" = true)
    (k3 : PySem.W.keepIn K (.ref f3) = true)
    (a4 : PySem.W.nsIn K mainGlobals "check_value" = some (some (.ref f4)))
    (l4 : K.lookup f4 = some ⟨oc4, od4, .func (PySem.W.fnOf "check_value" "check_value" (defArgs sChk) (defBody sChk) (defScope sChk) .none kV4 dc4 pm4 an4 cd4 ct4), sl4⟩)
    (c4 : PySem.W.codeIn K cd4 "check_value" = true)
    (k4 : PySem.W.keepIn K (.ref f4) = true)
    (a5 : PySem.W.nsIn K mainGlobals "is_value" = some (some (.ref f5)))
    (l5 : K.lookup f5 = some ⟨oc5, od5, .func (PySem.W.fnOf "is_value" "is_value" (defArgs sIsV) (defBody sIsV) (defScope sIsV) .none kV5 dc5 pm5 an5 cd5 ct5), sl5⟩)
    (c5 : PySem.W.codeIn K cd5 "is_value" = true)
    (k5 : PySem.W.keepIn K (.ref f5) = true)
    (a6 : PySem.W.nsIn K mainGlobals "rebuilt" = some (some (.ref f6)))
    (l6 : K.lookup f6 = some ⟨oc6, od6, .func (PySem.W.fnOf "rebuilt" "rebuilt" (defArgs sReb) (defBody sReb) (defScope sReb) .none kV6 dc6 pm6 an6 cd6 ct6), sl6⟩)
    (c6 : PySem.W.codeIn K cd6 "rebuilt" = true)
    (k6 : PySem.W.keepIn K (.ref f6) = true)
    (a7 : PySem.W.nsIn K mainGlobals "copied" = some (some (.ref f7)))
    (l7 : K.lookup f7 = some ⟨oc7, od7, .func (PySem.W.fnOf "copied" "copied" (defArgs sCop) (defBody sCop) (defScope sCop) .none kV7 dc7 pm7 an7 cd7 ct7), sl7⟩)
    (c7 : PySem.W.codeIn K cd7 "copied" = true)
    (k7 : PySem.W.keepIn K (.ref f7) = true)
    (a8 : PySem.W.nsIn K mainGlobals "string_notation" = some (some (.ref f8)))
    (l8 : K.lookup f8 = some ⟨oc8, od8, .func (PySem.W.fnOf "string_notation" "string_notation" (defArgs sSN) (defBody sSN) (defScope sSN) .none kV8 dc8 pm8 an8 cd8 ct8), sl8⟩)
    (c8 : PySem.W.codeIn K cd8 "string_notation" = true)
    (k8 : PySem.W.keepIn K (.ref f8) = true)
    (a9 : PySem.W.nsIn K mainGlobals "value_notation" = some (some (.ref f9)))
    (l9 : K.lookup f9 = some ⟨oc9, od9, .func (PySem.W.fnOf "value_notation" "value_notation" (defArgs sVN) (defBody sVN) (defScope sVN) .none kV9 dc9 pm9 an9 cd9 ct9), sl9⟩)
    (c9 : PySem.W.codeIn K cd9 "value_notation" = true)
    (k9 : PySem.W.keepIn K (.ref f9) = true)
    (a10 : PySem.W.nsIn K mainGlobals "check_mappings" = some (some (.ref f10)))
    (l10 : K.lookup f10 = some ⟨oc10, od10, .func (PySem.W.fnOf "check_mappings" "check_mappings" (defArgs sCM) (defBody sCM) (defScope sCM) .none kV10 dc10 pm10 an10 cd10 ct10), sl10⟩)
    (c10 : PySem.W.codeIn K cd10 "check_mappings" = true)
    (k10 : PySem.W.keepIn K (.ref f10) = true)
    (a11 : PySem.W.nsIn K mainGlobals "are_alike" = some (some (.ref f11)))
    (l11 : K.lookup f11 = some ⟨oc11, od11, .func (PySem.W.fnOf "are_alike" "are_alike" (defArgs sAA) (defBody sAA) (defScope sAA) .none kV11 dc11 pm11 an11 cd11 ct11), sl11⟩)
    (c11 : PySem.W.codeIn K cd11 "are_alike" = true)
    (k11 : PySem.W.keepIn K (.ref f11) = true)
    (a12 : PySem.W.nsIn K mainGlobals "are_same" = some (some (.ref f12)))
    (l12 : K.lookup f12 = some ⟨oc12, od12, .func (PySem.W.fnOf "are_same" "are_same" (defArgs sAS) (defBody sAS) (defScope sAS) .none kV12 dc12 pm12 an12 cd12 ct12), sl12⟩)
    (c12 : PySem.W.codeIn K cd12 "are_same" = true)
    (k12 : PySem.W.keepIn K (.ref f12) = true)
    (a13 : PySem.W.nsIn K mainGlobals "applied" = some (some (.ref f13)))
    (l13 : K.lookup f13 = some ⟨oc13, od13, .func (PySem.W.fnOf "applied" "applied" (defArgs sAp) (defBody sAp) (defScope sAp) .none kV13 dc13 pm13 an13 cd13 ct13), sl13⟩)
    (c13 : PySem.W.codeIn K cd13 "applied" = true)
    (k13 : PySem.W.keepIn K (.ref f13) = true)
    (a14 : PySem.W.nsIn K mainGlobals "has_changed" = some (some (.ref f14)))
    (l14 : K.lookup f14 = some ⟨oc14, od14, .func (PySem.W.fnOf "has_changed" "has_changed" (defArgs sHC) (defBody sHC) (defScope sHC) .none kV14 dc14 pm14 an14 cd14 ct14), sl14⟩)
    (c14 : PySem.W.codeIn K cd14 "has_changed" = true)
    (k14 : PySem.W.keepIn K (.ref f14) = true)
    (a15 : PySem.W.nsIn K mainGlobals "are_one_change" = some (some (.ref f15)))
    (l15 : K.lookup f15 = some ⟨oc15, od15, .func (PySem.W.fnOf "are_one_change" "are_one_change" (defArgs sOC) (defBody sOC) (defScope sOC) .none kV15 dc15 pm15 an15 cd15 ct15), sl15⟩)
    (c15 : PySem.W.codeIn K cd15 "are_one_change" = true)
    (k15 : PySem.W.keepIn K (.ref f15) = true)
    (a16 : PySem.W.nsIn K mainGlobals "all_conflicts" = some (some (.ref f16)))
    (l16 : K.lookup f16 = some ⟨oc16, od16, .func (PySem.W.fnOf "all_conflicts" "all_conflicts" (defArgs sAC) (defBody sAC) (defScope sAC) .none kV16 dc16 pm16 an16 cd16 ct16), sl16⟩)
    (c16 : PySem.W.codeIn K cd16 "all_conflicts" = true)
    (k16 : PySem.W.keepIn K (.ref f16) = true)
    (a17 : PySem.W.nsIn K mainGlobals "conflicts" = some (some (.ref f17)))
    (l17 : K.lookup f17 = some ⟨oc17, od17, .func (PySem.W.fnOf "conflicts" "conflicts" (defArgs sCf) (defBody sCf) (defScope sCf) .none kV17 dc17 pm17 an17 cd17 ct17), sl17⟩)
    (c17 : PySem.W.codeIn K cd17 "conflicts" = true)
    (k17 : PySem.W.keepIn K (.ref f17) = true)
    (a18 : PySem.W.nsIn K mainGlobals "merged" = some (some (.ref f18)))
    (l18 : K.lookup f18 = some ⟨oc18, od18, .func (PySem.W.fnOf "merged" "merged" (defArgs sMg) (defBody sMg) (defScope sMg) .none kV18 dc18 pm18 an18 cd18 ct18), sl18⟩)
    (c18 : PySem.W.codeIn K cd18 "merged" = true)
    (k18 : PySem.W.keepIn K (.ref f18) = true)
    (a19 : PySem.W.nsIn K mainGlobals "_law_source" = some (some (.ref f19)))
    (l19 : K.lookup f19 = some ⟨oc19, od19, .func (PySem.W.fnOf "_law_source" "_law_source" (defArgs sSr) (defBody sSr) (defScope sSr) .none kV19 dc19 pm19 an19 cd19 ct19), sl19⟩)
    (c19 : PySem.W.codeIn K cd19 "_law_source" = true)
    (k19 : PySem.W.keepIn K (.ref f19) = true)
    (a20 : PySem.W.nsIn K mainGlobals "_law_pick" = some (some (.ref f20)))
    (l20 : K.lookup f20 = some ⟨oc20, od20, .func (PySem.W.fnOf "_law_pick" "_law_pick" (defArgs sPk) (defBody sPk) (defScope sPk) .none kV20 dc20 pm20 an20 cd20 ct20), sl20⟩)
    (c20 : PySem.W.codeIn K cd20 "_law_pick" = true)
    (k20 : PySem.W.keepIn K (.ref f20) = true)
    (a21 : PySem.W.nsIn K mainGlobals "_law_string" = some (some (.ref f21)))
    (l21 : K.lookup f21 = some ⟨oc21, od21, .func (PySem.W.fnOf "_law_string" "_law_string" (defArgs sSt) (defBody sSt) (defScope sSt) .none kV21 dc21 pm21 an21 cd21 ct21), sl21⟩)
    (c21 : PySem.W.codeIn K cd21 "_law_string" = true)
    (k21 : PySem.W.keepIn K (.ref f21) = true)
    (a22 : PySem.W.nsIn K mainGlobals "_law_value" = some (some (.ref f22)))
    (l22 : K.lookup f22 = some ⟨oc22, od22, .func (PySem.W.fnOf "_law_value" "_law_value" (defArgs sVa) (defBody sVa) (defScope sVa) .none kV22 dc22 pm22 an22 cd22 ct22), sl22⟩)
    (c22 : PySem.W.codeIn K cd22 "_law_value" = true)
    (k22 : PySem.W.keepIn K (.ref f22) = true)
    (a23 : PySem.W.nsIn K mainGlobals "_law_mapping" = some (some (.ref f23)))
    (l23 : K.lookup f23 = some ⟨oc23, od23, .func (PySem.W.fnOf "_law_mapping" "_law_mapping" (defArgs sMa) (defBody sMa) (defScope sMa) .none kV23 dc23 pm23 an23 cd23 ct23), sl23⟩)
    (c23 : PySem.W.codeIn K cd23 "_law_mapping" = true)
    (k23 : PySem.W.keepIn K (.ref f23) = true)
    (a24 : PySem.W.nsIn K mainGlobals "_law_deeds" = some (some (.ref f24)))
    (l24 : K.lookup f24 = some ⟨oc24, od24, .func (PySem.W.fnOf "_law_deeds" "_law_deeds" (defArgs sDe) (defBody sDe) (defScope sDe) .none kV24 dc24 pm24 an24 cd24 ct24), sl24⟩)
    (c24 : PySem.W.codeIn K cd24 "_law_deeds" = true)
    (k24 : PySem.W.keepIn K (.ref f24) = true)
    (a25 : PySem.W.nsIn K mainGlobals "_law_done" = some (some (.ref f25)))
    (l25 : K.lookup f25 = some ⟨oc25, od25, .func (PySem.W.fnOf "_law_done" "_law_done" (defArgs sDn) (defBody sDn) (defScope sDn) .none kV25 dc25 pm25 an25 cd25 ct25), sl25⟩)
    (c25 : PySem.W.codeIn K cd25 "_law_done" = true)
    (k25 : PySem.W.keepIn K (.ref f25) = true)
    (a26 : PySem.W.nsIn K mainGlobals "_law_at" = some (some (.ref f26)))
    (l26 : K.lookup f26 = some ⟨oc26, od26, .func (PySem.W.fnOf "_law_at" "_law_at" (defArgs sAt) (defBody sAt) (defScope sAt) .none kV26 dc26 pm26 an26 cd26 ct26), sl26⟩)
    (c26 : PySem.W.codeIn K cd26 "_law_at" = true)
    (k26 : PySem.W.keepIn K (.ref f26) = true)
    (a27 : PySem.W.nsIn K mainGlobals "_law_conflicts" = some (some (.ref f27)))
    (l27 : K.lookup f27 = some ⟨oc27, od27, .func (PySem.W.fnOf "_law_conflicts" "_law_conflicts" (defArgs sLC) (defBody sLC) (defScope sLC) .none kV27 dc27 pm27 an27 cd27 ct27), sl27⟩)
    (c27 : PySem.W.codeIn K cd27 "_law_conflicts" = true)
    (k27 : PySem.W.keepIn K (.ref f27) = true)
    (a28 : PySem.W.nsIn K mainGlobals "_law_merged" = some (some (.ref f28)))
    (l28 : K.lookup f28 = some ⟨oc28, od28, .func (PySem.W.fnOf "_law_merged" "_law_merged" (defArgs sLM) (defBody sLM) (defScope sLM) .none kV28 dc28 pm28 an28 cd28 ct28), sl28⟩)
    (c28 : PySem.W.codeIn K cd28 "_law_merged" = true)
    (k28 : PySem.W.keepIn K (.ref f28) = true)
    (a29 : PySem.W.nsIn K mainGlobals "_law_told" = some (some (.ref f29)))
    (l29 : K.lookup f29 = some ⟨oc29, od29, .func (PySem.W.fnOf "_law_told" "_law_told" (defArgs sTo) (defBody sTo) (defScope sTo) .none kV29 dc29 pm29 an29 cd29 ct29), sl29⟩)
    (c29 : PySem.W.codeIn K cd29 "_law_told" = true)
    (k29 : PySem.W.keepIn K (.ref f29) = true)
    (a30 : PySem.W.nsIn K mainGlobals "_law_listed" = some (some (.ref f30)))
    (l30 : K.lookup f30 = some ⟨oc30, od30, .func (PySem.W.fnOf "_law_listed" "_law_listed" (defArgs sLi) (defBody sLi) (defScope sLi) .none kV30 dc30 pm30 an30 cd30 ct30), sl30⟩)
    (c30 : PySem.W.codeIn K cd30 "_law_listed" = true)
    (k30 : PySem.W.keepIn K (.ref f30) = true)
    (a31 : PySem.W.nsIn K mainGlobals "_law_right" = some (some (.ref f31)))
    (l31 : K.lookup f31 = some ⟨oc31, od31, .func (PySem.W.fnOf "_law_right" "_law_right" (defArgs sRi) (defBody sRi) (defScope sRi) .none kV31 dc31 pm31 an31 cd31 ct31), sl31⟩)
    (c31 : PySem.W.codeIn K cd31 "_law_right" = true)
    (k31 : PySem.W.keepIn K (.ref f31) = true)
    (a32 : PySem.W.nsIn K mainGlobals "law" = some (some (.ref f32)))
    (l32 : K.lookup f32 = some ⟨oc32, od32, .func (PySem.W.fnOf "law" "law" (defArgs sLw) (defBody sLw) (defScope sLw) .none kV32 dc32 pm32 an32 cd32 ct32), sl32⟩)
    (c32 : PySem.W.codeIn K cd32 "law" = true)
    (k32 : PySem.W.keepIn K (.ref f32) = true)
    (z_isinstance : PySem.W.nsIn K mainGlobals "isinstance" = some none)
    (z_str : PySem.W.nsIn K mainGlobals "str" = some none)
    (z_len : PySem.W.nsIn K mainGlobals "len" = some none)
    (z_dict : PySem.W.nsIn K mainGlobals "dict" = some none)
    (z_list : PySem.W.nsIn K mainGlobals "list" = some none)
    (z_tuple : PySem.W.nsIn K mainGlobals "tuple" = some none)
    (z_bool : PySem.W.nsIn K mainGlobals "bool" = some none)
    (z_int : PySem.W.nsIn K mainGlobals "int" = some none)
    (z_abs : PySem.W.nsIn K mainGlobals "abs" = some none)
    (z_all : PySem.W.nsIn K mainGlobals "all" = some none)
    (z_range : PySem.W.nsIn K mainGlobals "range" = some none)
    (z_sorted : PySem.W.nsIn K mainGlobals "sorted" = some none)
    (z_repr : PySem.W.nsIn K mainGlobals "repr" = some none)
    (z_set : PySem.W.nsIn K mainGlobals "set" = some none)
    (z_max : PySem.W.nsIn K mainGlobals "max" = some none)
    (z_min : PySem.W.nsIn K mainGlobals "min" = some none)
    (z_enumerate : PySem.W.nsIn K mainGlobals "enumerate" = some none)
    (z_super : PySem.W.nsIn K mainGlobals "super" = some none)
    (n_MOST_DIGITS : PySem.W.nsIn K mainGlobals "MOST_DIGITS" = some (some (.int 100 t_MOST_DIGITS)))
    (n_MOST_ITEMS : PySem.W.nsIn K mainGlobals "MOST_ITEMS" = some (some (.int 10000 t_MOST_ITEMS)))
    (n_MOST_LEVELS : PySem.W.nsIn K mainGlobals "MOST_LEVELS" = some (some (.int 20 t_MOST_LEVELS)))
    (n_MOST_KEY : PySem.W.nsIn K mainGlobals "MOST_KEY" = some (some (.int 200 t_MOST_KEY)))
    (eA : PySem.W.nsIn K mainGlobals "ESCAPES" = some (some (.ref dE)))
    (eL : K.lookup dE = some ⟨.type "dict", none, .dict es nE, #[]⟩)
    (eK : PySem.W.KeysLit w.params es.toList)
    (eM : (dE == sysModules) = false)
    (e10 : PySem.W.nsIn K dE ⟨#[10]⟩ = some (some (.str y10 u10)))
    (w10 : cs y10 = eN 10)
    (e32 : PySem.W.nsIn K dE ⟨#[32]⟩ = some none)
    (e34 : PySem.W.nsIn K dE ⟨#[34]⟩ = some (some (.str y34 u34)))
    (w34 : cs y34 = eN 34)
    (e44 : PySem.W.nsIn K dE ⟨#[44]⟩ = some none)
    (e49 : PySem.W.nsIn K dE ⟨#[49]⟩ = some none)
    (e58 : PySem.W.nsIn K dE ⟨#[58]⟩ = some none)
    (e92 : PySem.W.nsIn K dE ⟨#[92]⟩ = some (some (.str y92 u92)))
    (w92 : cs y92 = eN 92)
    (e93 : PySem.W.nsIn K dE ⟨#[93]⟩ = some none)
    (e97 : PySem.W.nsIn K dE ⟨#[97]⟩ = some none)
    (e98 : PySem.W.nsIn K dE ⟨#[98]⟩ = some none)
    (e99 : PySem.W.nsIn K dE ⟨#[99]⟩ = some none)
    (e107 : PySem.W.nsIn K dE ⟨#[107]⟩ = some none)
    (e126 : PySem.W.nsIn K dE ⟨#[126]⟩ = some none)
    (xC : PySem.W.nsIn K mainGlobals "Conflict" = some (some (.ref C)))
    (xL : K.lookup C = some (excClassObj nm qn C Nn bs bm true sn sub ab col dd m0 m1 m2 m3 m5 "RuntimeError.__new__"))
    (xT : PySem.W.excTail rtTail bm = true)
    (xI : PySem.W.excInitIn K C rtTail "RuntimeError.__new__" = true)
    (xO : PySem.W.excOver K C rtTail = true)
    (xK : PySem.W.takerIn K C "given" = some none)
    (xsa : PySem.W.findIn K (.ref C) "__setattr__" = some (some (.builtin "object.__setattr__")))
    (xga : PySem.W.findIn K (.ref C) "__getattribute__" = some (some (.builtin "BaseException.__getattribute__")))
    (xgg : PySem.W.findIn K (.ref C) "__getattr__" = some none)
    (xnN : PySem.W.findIn K (.ref C) "given" = some none)
    (xiC : PySem.W.findIn K (.ref C) "__init__" = some (some (.ref fI)))
    (xtC : PySem.W.typeIn K (.ref fI) = some (.type "function"))
    (xkC : PySem.W.keepIn K (.ref C) = true)
    (xeC : PySem.W.subIn K (.ref C) (.type "BaseException") = some true)
    (xrC : PySem.W.subIn K (.ref C) (.type "RuntimeError") = some true)
    (xyC : PySem.W.typeIn K (.ref C) = some (.type "type"))
    (xhC : PySem.W.hasDictIn K C = true)
    (xic : PySem.W.isClsIn K C = true)
    (xsC : PySem.W.subIn K (.ref C) (.ref C) = some true)
    (xmC : PySem.W.mroIn K C (.ref C) = some true)
    (xop : PySem.W.nsIn K cStatics "thirdparty.any" = some none)
    (xsI : PySem.W.ks_superIn K C C "__init__" = some (some (.builtin "RuntimeError.__init__")))
    (xfI : K.lookup fI = some ⟨ocI, odI, .func (PySem.W.ksFn "__init__" "Conflict.__init__" (L2.defArgs sInit) (L2.defBody sInit) (L2.defScope sInit) .none kVI docI pmI anI (.ref cda) ctI cc), oslI⟩)
    (xcI : PySem.W.codeIn K (.ref cda) "Conflict.__init__" = true)
    (xda : K.lookup cda = some ⟨ccl, cdd, .fields vsI, ccs⟩)
    (xfl : vsI[2]? = some (.str PySem.Challenge.pw_recordshelf_k62_whole_merges.main.file tf))
    (xcc : K.lookup cc = some ⟨cl, cld, .cell (some (.ref C)), csl⟩) :
    ∃ fd : FuncData, (∀ (s : Shared) (v : Value), BindsTo s fd ⟨[v], []⟩ [("_law_script", v)]) ∧ ∀ base : Heap, K.In base → base.Ns mainGlobals mg → FnG pW w K mg base CX0 12 fa fd ["_law_script"] (spLaw K) := by
  have e := hfa.symm.trans (PySem.W.mg_of X G a32)
  cases e
  have B : Bi mg := ⟨PySem.W.mg_none_of X G z_isinstance, PySem.W.mg_none_of X G z_str, PySem.W.mg_none_of X G z_len, PySem.W.mg_none_of X G z_dict, PySem.W.mg_none_of X G z_list, PySem.W.mg_none_of X G z_tuple, PySem.W.mg_none_of X G z_bool, PySem.W.mg_none_of X G z_int, PySem.W.mg_none_of X G z_abs, PySem.W.mg_none_of X G z_all, PySem.W.mg_none_of X G z_range, PySem.W.mg_none_of X G z_sorted, PySem.W.mg_none_of X G z_repr, PySem.W.mg_none_of X G z_set, PySem.W.mg_none_of X G z_max, PySem.W.mg_none_of X G z_min, PySem.W.mg_none_of X G z_enumerate⟩
  have Cn : Co mg := ⟨⟨_, PySem.W.mg_of X G n_MOST_DIGITS⟩, ⟨_, PySem.W.mg_of X G n_MOST_ITEMS⟩, ⟨_, PySem.W.mg_of X G n_MOST_LEVELS⟩, ⟨_, PySem.W.mg_of X G n_MOST_KEY⟩⟩
  have Es : Esc K w mg dE es nE := ⟨PySem.W.mg_of X G eA, ⟨eL, eK, eM⟩, fun c hc => by
    rcases (show c = 10 ∨ c = 32 ∨ c = 34 ∨ c = 44 ∨ c = 49 ∨ c = 58 ∨ c = 92 ∨ c = 93 ∨ c = 97 ∨ c = 98 ∨ c = 99 ∨ c = 107 ∨ c = 126 by simpa [signs] using hc) with rfl | rfl | rfl | rfl | rfl | rfl | rfl | rfl | rfl | rfl | rfl | rfl | rfl
    · exact .inr ⟨_, _, e10, w10⟩
    · exact .inl ⟨rfl, e32⟩
    · exact .inr ⟨_, _, e34, w34⟩
    · exact .inl ⟨rfl, e44⟩
    · exact .inl ⟨rfl, e49⟩
    · exact .inl ⟨rfl, e58⟩
    · exact .inr ⟨_, _, e92, w92⟩
    · exact .inl ⟨rfl, e93⟩
    · exact .inl ⟨rfl, e97⟩
    · exact .inl ⟨rfl, e98⟩
    · exact .inl ⟨rfl, e99⟩
    · exact .inl ⟨rfl, e107⟩
    · exact .inl ⟨rfl, e126⟩⟩
  have T : CfTxt K mg C fI := { gC := PySem.W.mg_of X G xC, sup := PySem.W.mg_none_of X G z_super, cls := ⟨nm, qn, Nn, bs, bm, sn, sub, ab, col, dd, m0, m1, m2, m3, m5, xL, xT⟩, inn := xI, ovr := xO, tak := xK, sa := xsa, ga := xga, gg := xgg, noN := xnN, iC := xiC, tC := xtC, kC := xkC, exC := xeC, rtC := xrC, tyC := xyC, hdC := xhC, te := exm_self xeC xic xyC xsC, selfC := xmC, opq := xop, sIn := xsI, fn := ⟨_, _, _, _, _, _, cda, cc, _, _, _, _, _, _, _, _, _, tf, xfI, xcI, xda, xfl, xcc⟩ }
  have F0 := fun_mk (x := "is_key") (qual := "is_key") (st := sIsKey) l0 c0 k0
  have D0 : Df K mg "is_key" sIsKey ["value"] _ _ := ⟨F0, PySem.W.mg_of X G a0, F0.binds (ps := ["value"]) fun _ _ _ _ _ _ us hl => match us, hl with | [_], _ => rfl⟩
  have F1 := fun_mk (x := "items_of") (qual := "items_of") (st := sItems) l1 c1 k1
  have D1 : Df K mg "items_of" sItems ["value"] _ _ := ⟨F1, PySem.W.mg_of X G a1, F1.binds (ps := ["value"]) fun _ _ _ _ _ _ us hl => match us, hl with | [_], _ => rfl⟩
  have F2 := fun_mk (x := "is_wrong_part") (qual := "is_wrong_part") (st := sWrong) l2 c2 k2
  have D2 : Df K mg "is_wrong_part" sWrong ["value", "depth"] _ _ := ⟨F2, PySem.W.mg_of X G a2, F2.binds (ps := ["value", "depth"]) fun _ _ _ _ _ _ us hl => match us, hl with | [_, _], _ => rfl⟩
  have F3 := fun_mk (x := "wrong_path") (qual := "wrong_path") (st := sWPath) l3 c3 k3
  have D3 : Df K mg "wrong_path" sWPath ["value", "path"] _ _ := ⟨F3, PySem.W.mg_of X G a3, F3.binds (ps := ["value", "path"]) fun _ _ _ _ _ _ us hl => match us, hl with | [_, _], _ => rfl⟩
  have F4 := fun_mk (x := "check_value") (qual := "check_value") (st := sChk) l4 c4 k4
  have D4 : Df K mg "check_value" sChk ["value"] _ _ := ⟨F4, PySem.W.mg_of X G a4, F4.binds (ps := ["value"]) fun _ _ _ _ _ _ us hl => match us, hl with | [_], _ => rfl⟩
  have F5 := fun_mk (x := "is_value") (qual := "is_value") (st := sIsV) l5 c5 k5
  have D5 : Df K mg "is_value" sIsV ["value"] _ _ := ⟨F5, PySem.W.mg_of X G a5, F5.binds (ps := ["value"]) fun _ _ _ _ _ _ us hl => match us, hl with | [_], _ => rfl⟩
  have F6 := fun_mk (x := "rebuilt") (qual := "rebuilt") (st := sReb) l6 c6 k6
  have D6 : Df K mg "rebuilt" sReb ["value"] _ _ := ⟨F6, PySem.W.mg_of X G a6, F6.binds (ps := ["value"]) fun _ _ _ _ _ _ us hl => match us, hl with | [_], _ => rfl⟩
  have F7 := fun_mk (x := "copied") (qual := "copied") (st := sCop) l7 c7 k7
  have D7 : Df K mg "copied" sCop ["value"] _ _ := ⟨F7, PySem.W.mg_of X G a7, F7.binds (ps := ["value"]) fun _ _ _ _ _ _ us hl => match us, hl with | [_], _ => rfl⟩
  have F8 := fun_mk (x := "string_notation") (qual := "string_notation") (st := sSN) l8 c8 k8
  have D8 : Df K mg "string_notation" sSN ["text"] _ _ := ⟨F8, PySem.W.mg_of X G a8, F8.binds (ps := ["text"]) fun _ _ _ _ _ _ us hl => match us, hl with | [_], _ => rfl⟩
  have F9 := fun_mk (x := "value_notation") (qual := "value_notation") (st := sVN) l9 c9 k9
  have D9 : Df K mg "value_notation" sVN ["value"] _ _ := ⟨F9, PySem.W.mg_of X G a9, F9.binds (ps := ["value"]) fun _ _ _ _ _ _ us hl => match us, hl with | [_], _ => rfl⟩
  have F10 := fun_mk (x := "check_mappings") (qual := "check_mappings") (st := sCM) l10 c10 k10
  have F11 := fun_mk (x := "are_alike") (qual := "are_alike") (st := sAA) l11 c11 k11
  have D11 : Df K mg "are_alike" sAA ["one", "other"] _ _ := ⟨F11, PySem.W.mg_of X G a11, F11.binds (ps := ["one", "other"]) fun _ _ _ _ _ _ us hl => match us, hl with | [_, _], _ => rfl⟩
  have F12 := fun_mk (x := "are_same") (qual := "are_same") (st := sAS) l12 c12 k12
  have D12 : Df K mg "are_same" sAS ["one", "other"] _ _ := ⟨F12, PySem.W.mg_of X G a12, F12.binds (ps := ["one", "other"]) fun _ _ _ _ _ _ us hl => match us, hl with | [_, _], _ => rfl⟩
  have F13 := fun_mk (x := "applied") (qual := "applied") (st := sAp) l13 c13 k13
  have D13 : Df K mg "applied" sAp ["mapping", "deeds"] _ _ := ⟨F13, PySem.W.mg_of X G a13, F13.binds (ps := ["mapping", "deeds"]) fun _ _ _ _ _ _ us hl => match us, hl with | [_, _], _ => rfl⟩
  have F14 := fun_mk (x := "has_changed") (qual := "has_changed") (st := sHC) l14 c14 k14
  have D14 : Df K mg "has_changed" sHC ["base", "one", "key"] _ _ := ⟨F14, PySem.W.mg_of X G a14, F14.binds (ps := ["base", "one", "key"]) fun _ _ _ _ _ _ us hl => match us, hl with | [_, _, _], _ => rfl⟩
  have F15 := fun_mk (x := "are_one_change") (qual := "are_one_change") (st := sOC) l15 c15 k15
  have D15 : Df K mg "are_one_change" sOC ["one", "other", "key"] _ _ := ⟨F15, PySem.W.mg_of X G a15, F15.binds (ps := ["one", "other", "key"]) fun _ _ _ _ _ _ us hl => match us, hl with | [_, _, _], _ => rfl⟩
  have F16 := fun_mk (x := "all_conflicts") (qual := "all_conflicts") (st := sAC) l16 c16 k16
  have D16 : Df K mg "all_conflicts" sAC ["base", "one", "other"] _ _ := ⟨F16, PySem.W.mg_of X G a16, F16.binds (ps := ["base", "one", "other"]) fun _ _ _ _ _ _ us hl => match us, hl with | [_, _, _], _ => rfl⟩
  have F17 := fun_mk (x := "conflicts") (qual := "conflicts") (st := sCf) l17 c17 k17
  have D17 : Df K mg "conflicts" sCf ["base", "one", "other"] _ _ := ⟨F17, PySem.W.mg_of X G a17, F17.binds (ps := ["base", "one", "other"]) fun _ _ _ _ _ _ us hl => match us, hl with | [_, _, _], _ => rfl⟩
  have F18 := fun_mk (x := "merged") (qual := "merged") (st := sMg) l18 c18 k18
  have D18 : Df K mg "merged" sMg ["base", "one", "other"] _ _ := ⟨F18, PySem.W.mg_of X G a18, F18.binds (ps := ["base", "one", "other"]) fun _ _ _ _ _ _ us hl => match us, hl with | [_, _, _], _ => rfl⟩
  have F19 := fun_mk (x := "_law_source") (qual := "_law_source") (st := sSr) l19 c19 k19
  have D19 : Df K mg "_law_source" sSr ["_law_script", "_law_k"] _ _ := ⟨F19, PySem.W.mg_of X G a19, F19.binds (ps := ["_law_script", "_law_k"]) fun _ _ _ _ _ _ us hl => match us, hl with | [_, _], _ => rfl⟩
  have F20 := fun_mk (x := "_law_pick") (qual := "_law_pick") (st := sPk) l20 c20 k20
  have D20 : Df K mg "_law_pick" sPk ["_law_source_here", "_law_amount"] _ _ := ⟨F20, PySem.W.mg_of X G a20, F20.binds (ps := ["_law_source_here", "_law_amount"]) fun _ _ _ _ _ _ us hl => match us, hl with | [_, _], _ => rfl⟩
  have F21 := fun_mk (x := "_law_string") (qual := "_law_string") (st := sSt) l21 c21 k21
  have D21 : Df K mg "_law_string" sSt ["_law_source_here"] _ _ := ⟨F21, PySem.W.mg_of X G a21, F21.binds (ps := ["_law_source_here"]) fun _ _ _ _ _ _ us hl => match us, hl with | [_], _ => rfl⟩
  have F22 := fun_mk (x := "_law_value") (qual := "_law_value") (st := sVa) l22 c22 k22
  have D22 : Df K mg "_law_value" sVa ["_law_source_here", "_law_depth"] _ _ := ⟨F22, PySem.W.mg_of X G a22, F22.binds (ps := ["_law_source_here", "_law_depth"]) fun _ _ _ _ _ _ us hl => match us, hl with | [_, _], _ => rfl⟩
  have F23 := fun_mk (x := "_law_mapping") (qual := "_law_mapping") (st := sMa) l23 c23 k23
  have D23 : Df K mg "_law_mapping" sMa ["_law_source_here", "_law_most"] _ _ := ⟨F23, PySem.W.mg_of X G a23, F23.binds (ps := ["_law_source_here", "_law_most"]) fun _ _ _ _ _ _ us hl => match us, hl with | [_, _], _ => rfl⟩
  have F24 := fun_mk (x := "_law_deeds") (qual := "_law_deeds") (st := sDe) l24 c24 k24
  have D24 : Df K mg "_law_deeds" sDe ["_law_source_here", "_law_most"] _ _ := ⟨F24, PySem.W.mg_of X G a24, F24.binds (ps := ["_law_source_here", "_law_most"]) fun _ _ _ _ _ _ us hl => match us, hl with | [_, _], _ => rfl⟩
  have F25 := fun_mk (x := "_law_done") (qual := "_law_done") (st := sDn) l25 c25 k25
  have D25 : Df K mg "_law_done" sDn ["_law_mapping_here", "_law_deeds_here"] _ _ := ⟨F25, PySem.W.mg_of X G a25, F25.binds (ps := ["_law_mapping_here", "_law_deeds_here"]) fun _ _ _ _ _ _ us hl => match us, hl with | [_, _], _ => rfl⟩
  have F26 := fun_mk (x := "_law_at") (qual := "_law_at") (st := sAt) l26 c26 k26
  have D26 : Df K mg "_law_at" sAt ["_law_mapping_here", "_law_key"] _ _ := ⟨F26, PySem.W.mg_of X G a26, F26.binds (ps := ["_law_mapping_here", "_law_key"]) fun _ _ _ _ _ _ us hl => match us, hl with | [_, _], _ => rfl⟩
  have F27 := fun_mk (x := "_law_conflicts") (qual := "_law_conflicts") (st := sLC) l27 c27 k27
  have D27 : Df K mg "_law_conflicts" sLC ["_law_base", "_law_one", "_law_other"] _ _ := ⟨F27, PySem.W.mg_of X G a27, F27.binds (ps := ["_law_base", "_law_one", "_law_other"]) fun _ _ _ _ _ _ us hl => match us, hl with | [_, _, _], _ => rfl⟩
  have F28 := fun_mk (x := "_law_merged") (qual := "_law_merged") (st := sLM) l28 c28 k28
  have D28 : Df K mg "_law_merged" sLM ["_law_base", "_law_one", "_law_other"] _ _ := ⟨F28, PySem.W.mg_of X G a28, F28.binds (ps := ["_law_base", "_law_one", "_law_other"]) fun _ _ _ _ _ _ us hl => match us, hl with | [_, _, _], _ => rfl⟩
  have F29 := fun_mk (x := "_law_told") (qual := "_law_told") (st := sTo) l29 c29 k29
  have D29 : Df K mg "_law_told" sTo ["_law_base", "_law_one", "_law_other"] _ _ := ⟨F29, PySem.W.mg_of X G a29, F29.binds (ps := ["_law_base", "_law_one", "_law_other"]) fun _ _ _ _ _ _ us hl => match us, hl with | [_, _, _], _ => rfl⟩
  have F30 := fun_mk (x := "_law_listed") (qual := "_law_listed") (st := sLi) l30 c30 k30
  have D30 : Df K mg "_law_listed" sLi ["_law_base", "_law_one", "_law_other"] _ _ := ⟨F30, PySem.W.mg_of X G a30, F30.binds (ps := ["_law_base", "_law_one", "_law_other"]) fun _ _ _ _ _ _ us hl => match us, hl with | [_, _, _], _ => rfl⟩
  have F31 := fun_mk (x := "_law_right") (qual := "_law_right") (st := sRi) l31 c31 k31
  have D31 : Df K mg "_law_right" sRi ["_law_base", "_law_one", "_law_other"] _ _ := ⟨F31, PySem.W.mg_of X G a31, F31.binds (ps := ["_law_base", "_law_one", "_law_other"]) fun _ _ _ _ _ _ us hl => match us, hl with | [_, _, _], _ => rfl⟩
  have F32 := fun_mk (x := "law") (qual := "law") (st := sLw) l32 c32 k32
  have D32 : Df K mg "law" sLw ["_law_script"] _ _ := ⟨F32, PySem.W.mg_of X G a32, F32.binds (ps := ["_law_script"]) fun _ _ _ _ _ _ us hl => match us, hl with | [_], _ => rfl⟩
  refine ⟨PySem.W.fnOf "law" "law" (defArgs sLw) (defBody sLw) (defScope sLw) .none kV32 dc32 pm32 an32 cd32 ct32, fun s v => .of_eq rfl, fun base _ _ => ?_⟩
  have gIK : FnOk pW w K mg base CX0 1 _ _ _ spIsKey := ok_is_key D0 B Cn
  have gIt : FnOk pW w K mg base CX0 1 _ _ _ spItems := ok_items D1 B
  have gWr : FnOk pW w K mg base CX0 1 _ _ _ spWrong := ok_wrong D2 B Cn
  have gWP : FnOk pW w K mg base CX0 3 _ _ _ (spWPath K 2) := ok_wpath D3 B D2 D1 gWr gIt 2
  have gCh : FnOk pW w K mg base CX0 4 _ _ _ spChk := ok_check D4 D3 gWP
  have gIV : FnOk pW w K mg base CX0 4 _ _ _ spIsV := ok_isv D5 D3 gWP
  have gRb : FnOk pW w K mg base CX0 3 _ _ _ (spReb 2) := ok_reb D6 B 2
  have gCo : FnOk pW w K mg base CX0 5 _ _ _ spCop := ok_cop D7 D4 D6 gCh gRb
  have gSN : FnOk pW w K mg base CX0 1 _ _ _ spSN := ok_sn D8 Es
  have gVN : FnOk pW w K mg base CX0 4 _ _ _ (spVN 3) := ok_vn D9 B D8 gSN 3
  have gCM : FnR pW w K mg base CX0 5 _ spCM := ok_cm F10 B D0 D5 gIK gIV
  have gAA : FnOk pW w K mg base CX0 5 _ _ _ spAA := ok_aa D11 D9 gVN
  have gAS : FnOk pW w K mg base CX0 6 _ _ _ spAS := ok_as D12 F10 (PySem.W.mg_of X G a10) D11 gCM gAA
  have gAp : FnOk pW w K mg base CX0 6 _ _ _ spAp := ok_ap D13 D7 gCo
  have gHC : FnOk pW w K mg base CX0 6 _ _ _ spHC := ok_hc D14 D11 gAA
  have gOC : FnOk pW w K mg base CX0 6 _ _ _ spOC := ok_oc D15 D11 gAA
  have gAC : FnOk pW w K mg base CX0 7 _ _ _ spAC := ok_ac D16 B D14 D15 gHC gOC
  have gMg : FnOk pW w K mg base (L2.CX pW w) 8 _ _ _ (spMg C) := ok_mg D18 B T F10 (PySem.W.mg_of X G a10) D16 D14 D13 gCM gAC gHC gAp
  have gAt : FnG pW w K mg base CX0 1 _ _ _ spAt := ok_at D26 B
  have gLC : FnG pW w K mg base CX0 2 _ _ _ spAC := ok_lc D27 B D26 gAt
  have gDn : FnOk pW w K mg base CX0 1 _ _ _ spDn := ok_dn D25 B
  have gLM : FnG pW w K mg base CX0 2 _ _ _ spLM := ok_lm D28 B D26 D25 gAt gDn
  have gLi : FnOk pW w K mg base CX0 10 _ _ _ spAC := ok_li D30 D17 F10 (PySem.W.mg_of X G a10) D16 gCM gAC
  have gTo : FnOk pW w K mg base CX0 9 _ _ _ spTo := ok_to D29 T D18 gMg
  have gRi : FnG pW w K mg base CX0 11 _ _ _ spRi := ok_ri D31 B T D26 D27 D28 D29 D30 D18 D12 gAt gLC gLM gTo gLi gMg gAS
  have gSr : FnOk pW w K mg base CX0 1 _ _ _ (spSr K) := ok_sr D19 B
  have gPk : FnOk pW w K mg base CX0 1 _ _ _ spPk := ok_pk D20 B
  have gSt : FnOk pW w K mg base CX0 2 _ _ _ spSt := ok_st D21 B D20 gPk
  have gVa : FnOk pW w K mg base CX0 4 _ _ _ (spVa 2) := ok_va D22 B D20 D21 gPk gSt
  have gMa : FnOk pW w K mg base CX0 5 _ _ _ spMa := ok_ma D23 B D20 D22 gPk gVa
  have gDe : FnOk pW w K mg base CX0 5 _ _ _ spDe := ok_de D24 B D20 D22 gPk gVa
  exact ok_law D32 B D18 gMg D19 gSr D20 gPk D23 gMa D24 gDe D25 gDn D31 gRi
end Mw
open PySem PySem.W PyProof.Rows
set_option maxRecDepth 100000 in
set_option maxHeartbeats 0 in
theorem PySem.Challenge.cw_recordshelf_k62_whole_merges_holds : PySem.Challenge.rw_recordshelf_k62_whole_merges.Holds := by
  w_on; o_law; k_head; (case hw => w_witness2)
  k_fill
  refine Mw.walk_ofG (l := PySem.Challenge.rw_recordshelf_k62_whole_merges) (n := 63) (k := 12) (x := "_law_script") (sp := fun w => Mw.spLaw _) rfl (by decide) rfl ⟨rfl, by decide, by decide⟩ (fun w h Y => PySem.W.kIn_of Y) ?F (fun _ _ a ns hl _ hS => ⟨a, ns, rfl, hS, hl, fun _ => rfl⟩)
  case F =>
    intro w mg fa h KX G hmg
    refine' Mw.all_mk KX G hmg ?a0 ?l0 ?c0 ?k0 ?a1 ?l1 ?c1 ?k1 ?a2 ?l2 ?c2 ?k2 ?a3 ?l3 ?c3 ?k3 ?a4 ?l4 ?c4 ?k4 ?a5 ?l5 ?c5 ?k5 ?a6 ?l6 ?c6 ?k6 ?a7 ?l7 ?c7 ?k7 ?a8 ?l8 ?c8 ?k8 ?a9 ?l9 ?c9 ?k9 ?a10 ?l10 ?c10 ?k10 ?a11 ?l11 ?c11 ?k11 ?a12 ?l12 ?c12 ?k12 ?a13 ?l13 ?c13 ?k13 ?a14 ?l14 ?c14 ?k14 ?a15 ?l15 ?c15 ?k15 ?a16 ?l16 ?c16 ?k16 ?a17 ?l17 ?c17 ?k17 ?a18 ?l18 ?c18 ?k18 ?a19 ?l19 ?c19 ?k19 ?a20 ?l20 ?c20 ?k20 ?a21 ?l21 ?c21 ?k21 ?a22 ?l22 ?c22 ?k22 ?a23 ?l23 ?c23 ?k23 ?a24 ?l24 ?c24 ?k24 ?a25 ?l25 ?c25 ?k25 ?a26 ?l26 ?c26 ?k26 ?a27 ?l27 ?c27 ?k27 ?a28 ?l28 ?c28 ?k28 ?a29 ?l29 ?c29 ?k29 ?a30 ?l30 ?c30 ?k30 ?a31 ?l31 ?c31 ?k31 ?a32 ?l32 ?c32 ?k32 ?z_isinstance ?z_str ?z_len ?z_dict ?z_list ?z_tuple ?z_bool ?z_int ?z_abs ?z_all ?z_range ?z_sorted ?z_repr ?z_set ?z_max ?z_min ?z_enumerate ?z_super ?n_MOST_DIGITS ?n_MOST_ITEMS ?n_MOST_LEVELS ?n_MOST_KEY ?eA ?eL ?eK ?eM ?e10 ?w10 ?e32 ?e34 ?w34 ?e44 ?e49 ?e58 ?e92 ?w92 ?e93 ?e97 ?e98 ?e99 ?e107 ?e126 ?xC ?xL ?xT ?xI ?xO ?xK ?xsa ?xga ?xgg ?xnN ?xiC ?xtC ?xkC ?xeC ?xrC ?xyC ?xhC ?xic ?xsC ?xmC ?xop ?xsI ?xfI ?xcI ?xda ?xfl ?xcc
    (case a0 => k_is)
    (case l0 => k_is)
    (case c0 => k_is)
    (case k0 => k_is)
    (case a1 => k_is)
    (case l1 => k_is)
    (case c1 => k_is)
    (case k1 => k_is)
    (case a2 => k_is)
    (case l2 => k_is)
    (case c2 => k_is)
    (case k2 => k_is)
    (case a3 => k_is)
    (case l3 => k_is)
    (case c3 => k_is)
    (case k3 => k_is)
    (case a4 => k_is)
    (case l4 => k_is)
    (case c4 => k_is)
    (case k4 => k_is)
    (case a5 => k_is)
    (case l5 => k_is)
    (case c5 => k_is)
    (case k5 => k_is)
    (case a6 => k_is)
    (case l6 => k_is)
    (case c6 => k_is)
    (case k6 => k_is)
    (case a7 => k_is)
    (case l7 => k_is)
    (case c7 => k_is)
    (case k7 => k_is)
    (case a8 => k_is)
    (case l8 => k_is)
    (case c8 => k_is)
    (case k8 => k_is)
    (case a9 => k_is)
    (case l9 => k_is)
    (case c9 => k_is)
    (case k9 => k_is)
    (case a10 => k_is)
    (case l10 => k_is)
    (case c10 => k_is)
    (case k10 => k_is)
    (case a11 => k_is)
    (case l11 => k_is)
    (case c11 => k_is)
    (case k11 => k_is)
    (case a12 => k_is)
    (case l12 => k_is)
    (case c12 => k_is)
    (case k12 => k_is)
    (case a13 => k_is)
    (case l13 => k_is)
    (case c13 => k_is)
    (case k13 => k_is)
    (case a14 => k_is)
    (case l14 => k_is)
    (case c14 => k_is)
    (case k14 => k_is)
    (case a15 => k_is)
    (case l15 => k_is)
    (case c15 => k_is)
    (case k15 => k_is)
    (case a16 => k_is)
    (case l16 => k_is)
    (case c16 => k_is)
    (case k16 => k_is)
    (case a17 => k_is)
    (case l17 => k_is)
    (case c17 => k_is)
    (case k17 => k_is)
    (case a18 => k_is)
    (case l18 => k_is)
    (case c18 => k_is)
    (case k18 => k_is)
    (case a19 => k_is)
    (case l19 => k_is)
    (case c19 => k_is)
    (case k19 => k_is)
    (case a20 => k_is)
    (case l20 => k_is)
    (case c20 => k_is)
    (case k20 => k_is)
    (case a21 => k_is)
    (case l21 => k_is)
    (case c21 => k_is)
    (case k21 => k_is)
    (case a22 => k_is)
    (case l22 => k_is)
    (case c22 => k_is)
    (case k22 => k_is)
    (case a23 => k_is)
    (case l23 => k_is)
    (case c23 => k_is)
    (case k23 => k_is)
    (case a24 => k_is)
    (case l24 => k_is)
    (case c24 => k_is)
    (case k24 => k_is)
    (case a25 => k_is)
    (case l25 => k_is)
    (case c25 => k_is)
    (case k25 => k_is)
    (case a26 => k_is)
    (case l26 => k_is)
    (case c26 => k_is)
    (case k26 => k_is)
    (case a27 => k_is)
    (case l27 => k_is)
    (case c27 => k_is)
    (case k27 => k_is)
    (case a28 => k_is)
    (case l28 => k_is)
    (case c28 => k_is)
    (case k28 => k_is)
    (case a29 => k_is)
    (case l29 => k_is)
    (case c29 => k_is)
    (case k29 => k_is)
    (case a30 => k_is)
    (case l30 => k_is)
    (case c30 => k_is)
    (case k30 => k_is)
    (case a31 => k_is)
    (case l31 => k_is)
    (case c31 => k_is)
    (case k31 => k_is)
    (case a32 => k_is)
    (case l32 => k_is)
    (case c32 => k_is)
    (case k32 => k_is)
    (case z_isinstance => k_is)
    (case z_str => k_is)
    (case z_len => k_is)
    (case z_dict => k_is)
    (case z_list => k_is)
    (case z_tuple => k_is)
    (case z_bool => k_is)
    (case z_int => k_is)
    (case z_abs => k_is)
    (case z_all => k_is)
    (case z_range => k_is)
    (case z_sorted => k_is)
    (case z_repr => k_is)
    (case z_set => k_is)
    (case z_max => k_is)
    (case z_min => k_is)
    (case z_enumerate => k_is)
    (case z_super => k_is)
    (case n_MOST_DIGITS => k_is)
    (case n_MOST_ITEMS => k_is)
    (case n_MOST_LEVELS => k_is)
    (case n_MOST_KEY => k_is)
    (case eA => k_is)
    (case eL => k_is)
    (case eK => first | exact ⟨⟨_, _, rfl, rfl⟩, ⟨_, _, rfl, rfl⟩, ⟨_, _, rfl, rfl⟩, trivial⟩ | k_is)
    (case eM => first | rfl | decide | k_is)
    (case e10 => k_is)
    (case w10 => first | rfl | decide +kernel)
    (case e32 => k_is)
    (case e34 => k_is)
    (case w34 => first | rfl | decide +kernel)
    (case e44 => k_is)
    (case e49 => k_is)
    (case e58 => k_is)
    (case e92 => k_is)
    (case w92 => first | rfl | decide +kernel)
    (case e93 => k_is)
    (case e97 => k_is)
    (case e98 => k_is)
    (case e99 => k_is)
    (case e107 => k_is)
    (case e126 => k_is)
    (case xC => k_is)
    (case xL => k_is)
    (case xT => first | rfl | decide +kernel | k_is)
    (case xI => first | k_is | rfl | decide +kernel)
    (case xO => first | k_is | rfl | decide +kernel)
    (case xK => first | k_is | rfl)
    (case xsa => k_is)
    (case xga => k_is)
    (case xgg => k_is)
    (case xnN => k_is)
    (case xiC => k_is)
    (case xtC => k_is)
    (case xkC => k_is)
    (case xeC => k_is)
    (case xrC => k_is)
    (case xyC => k_is)
    (case xhC => k_is)
    (case xic => k_is)
    (case xsC => first | rfl | k_is)
    (case xmC => first | rfl | k_is)
    (case xop => first | k_is | rfl)
    (case xsI => first | k_is | rfl)
    (case xfI => k_is)
    (case xcI => k_is)
    (case xda => k_is)
    (case xfl => first | rfl | k_is)
    (case xcc => k_is)

end
