import PyProof.Rows.All
import Wide.All
import OpenK.AllK
import Wide.FinOn
import Lean
import PySem.Challenge.RW_og0074_01
open PySem PySem.W PyProof.Rows
set_option Elab.async false
set_option maxRecDepth 100000
/-! part Hd -/
namespace Mine
set_option maxRecDepth 100000 in
set_option maxHeartbeats 8000000 in
open_top hd for PySem.Challenge.rw_og0074_01
end Mine
/-! part Hd2 -/
namespace Mine
/-- what a call of the def at `f` needs: the caller's frame, the ledger, the written part. -/
abbrev Ask (w : World) (dk : Nat) (news : List (Addr × Obj)) (K : Params → Frag) (f : Addr) (vs : List Value) (pre : Prop)
    (Ret : Heap → Addr → (Str → Option Value) → Shared → (Value → Shared → Prop) → Prop) : Prop :=
  ∀ (p : Program) (loose : List Str) (mean : ExcName → Option Value) (mg mb : Str → Option Value) (dp un : Nat) (gd : Option (List Code)) (cn : Str) (nms : List (Str × NameKind)) (ig ic : Bool) (mor : List (Str × Const)) (a : Addr) (ccd : Value) (cl : List (Str × Addr)) (outer : List Env) (A₀ : Around) (base h₀ : Heap) (L : Addr) (m : Str → Option Value) (s : Shared) (Q E : Value → Shared → Prop),
    Below A₀ base outer h₀ → Fr h₀ L s.heap m → (K w.params).In h₀ → News h₀ L s.heap news → Top p loose mean mg mb h₀ →
    pre → dp + dk < recursionLimit → un + 10 * dk < cLine → Ret h₀ L m s Q →
      wpAny (model PySem.Challenge.rw_og0074_01.row.prog w) (ktrTop dp un gd cn (Scope.mk .function nms ig ic mor) L a ccd cl outer) (call (.ref f) vs) Q E s
abbrev tupO (vs : List Value) (c : Nat) : Obj := { cls := .type "tuple", data := .seq vs.toArray c }
end Mine
namespace Mine
theorem ask_go {w : World} {dk : Nat} {news : List (Addr × Obj)} {K : Params → Frag} {f : Addr} {vs : List Value} {pre : Prop} {Ret : Heap → Addr → (Str → Option Value) → Shared → (Value → Shared → Prop) → Prop}
    (h : Ask w dk news K f vs pre Ret) {p : Program} {loose : List Str} {mean : ExcName → Option Value} {mg mb : Str → Option Value} {dp un : Nat} {gd : Option (List Code)} {cn : Str} {nms : List (Str × NameKind)} {ig ic : Bool} {mor : List (Str × Const)} {a : Addr} {ccd : Value} {cl : List (Str × Addr)} {outer : List Env} {A₀ : Around} {base h₀ : Heap} {L : Addr} {m : Str → Option Value} {s : Shared} {Q E : Value → Shared → Prop}
    (B : Below A₀ base outer h₀) (F : Fr h₀ L s.heap m) (X : (K w.params).In h₀) (N : News h₀ L s.heap news) (T : Top p loose mean mg mb h₀) (hp : pre) (hd : dp + dk < recursionLimit) (hu : un + 10 * dk < cLine) (hr : Ret h₀ L m s Q) :
    wpAny (model PySem.Challenge.rw_og0074_01.row.prog w) (ktrTop dp un gd cn (Scope.mk .function nms ig ic mor) L a ccd cl outer) (call (.ref f) vs) Q E s := h _ _ _ _ _ _ _ _ _ _ _ _ _ _ _ _ _ _ _ _ _ _ _ _ _ B F X N T hp hd hu hr
end Mine
/-! part P1 -/
namespace Mine
/-! the plain law: figures, texts -/
def dgs : Nat → Nat → List Nat
  | 0, _ => []
  | k + 1, n => dgs k (n / 10) ++ [48 + n % 10]
theorem dgs_len : ∀ (k n : Nat), (dgs k n).length = k
  | 0, _ => rfl
  | k + 1, n => by simp [dgs, dgs_len k]
theorem dgs_zero : ∀ k, dgs k 0 = List.replicate k 48
  | 0 => rfl
  | k + 1 => by simp [dgs, dgs_zero k, List.replicate_succ']
theorem dgs_mem : ∀ (k n : Nat), ∀ c ∈ dgs k n, 48 ≤ c ∧ c ≤ 57
  | 0, _, c, h => by simp [dgs] at h
  | k + 1, n, c, h => by
    simp only [dgs, List.mem_append, List.mem_singleton] at h
    rcases h with h | rfl
    · exact dgs_mem k _ c h
    · omega
theorem dchar : ∀ d : Nat, d < 10 → (Nat.digitChar d).toNat = 48 + d := by decide
theorem toDigits_dgs : ∀ (k n : Nat), 1 ≤ k → n < 10 ^ k →
    List.replicate (k - (Nat.toDigits 10 n).length) 48 ++ (Nat.toDigits 10 n).map Char.toNat = dgs k n ∧ (Nat.toDigits 10 n).length ≤ k
  | 0, _, h, _ => by omega
  | k + 1, n, _, h => by
    rw [Nat.toDigits_eq_if (by decide)]
    by_cases hn : n < 10
    · rw [if_pos hn]
      have e1 : n / 10 = 0 := by omega
      have e2 : n % 10 = n := by omega
      simp [dgs, e1, e2, dgs_zero, dchar n hn]
    · rw [if_neg hn]
      have hk : 1 ≤ k := by
        rcases k with _ | k
        · simp at h; omega
        · omega
      have hlt : n / 10 < 10 ^ k := by
        rw [Nat.pow_succ] at h
        omega
      obtain ⟨ih1, ih2⟩ := toDigits_dgs k (n / 10) hk hlt
      constructor
      · simp only [List.length_append, List.length_cons, List.length_nil, List.map_append, List.map_cons, List.map_nil, dgs]
        rw [show k + 1 - ((Nat.toDigits 10 (n / 10)).length + (0 + 1)) = k - (Nat.toDigits 10 (n / 10)).length by omega, ← List.append_assoc, ih1, dchar _ (Nat.mod_lt _ (by decide))]
      · simp; omega
theorem strEq {x y : Str} (h : x.cps.toList = y.cps.toList) : x = y := Str.ext' (Array.toList_inj.mp h)
abbrev mkS (l : List Nat) : Str := ⟨l.toArray⟩
theorem mkS_list (l : List Nat) : (mkS l).cps.toList = l := rfl
theorem eq_mkS (x : Str) : x = mkS x.cps.toList := rfl
theorem str_len (x : Str) : x.length = x.cps.toList.length := by simp [Str.length]
theorem app_list (x y : Str) : (x ++ y).cps.toList = x.cps.toList ++ y.cps.toList := by rw [Str.cps_append, Array.toList_append]
theorem slTo {x : Str} {j : Int} (h0 : 0 ≤ j) (h1 : j ≤ x.length) : Txt.slice x none (some j) = mkS (x.cps.toList.take j.toNat) := by
  have := eq_of_beq (slice_closes_to (x := x) (j := j) ⟨h0, by rw [← str_len]; exact h1⟩)
  rw [this]; simp
theorem slFrom {x : Str} {i : Int} (h0 : 0 ≤ i) (h1 : i ≤ x.length) : Txt.slice x (some i) none = mkS (x.cps.toList.drop i.toNat) := by
  rw [slice_from_eq h0 h1 rfl]
  congr 1
  rw [List.take_of_length_le]
  rw [List.length_drop, ← str_len]; omega
theorem mul0_list (n : Int) : (Txt.mul (Str.ofString "0") n).cps.toList = List.replicate n.toNat 48 := by
  unfold Txt.mul
  have e0 : Str.ofString "0" = mkS [48] := by decide +kernel
  rw [e0]
  split
  · rename_i h
    have : n.toNat = 0 := by omega
    rw [this]; rfl
  · split
    · rename_i h1 h2
      have : n = 1 := by simpa [Str.length] using h2
      subst this; rfl
    · have key : ∀ (k : Nat) (a : Array Nat), (List.foldl (fun x1 x2 => x1 ++ x2) a (List.replicate k (mkS [48]).cps)).toList = a.toList ++ List.replicate k 48 := by
        intro k
        induction k with
        | zero => intro a; simp
        | succ k ih =>
          intro a
          rw [List.replicate_succ, List.foldl_cons, ih]
          simp [List.replicate_succ]
      have := key n.toNat #[]
      simpa using this
def absI (u : Int) : Int := if u < 0 then -u else u
theorem absI_nat (u : Int) : (if u < 0 then -u else u) = ((u.natAbs : Nat) : Int) := by split <;> omega
theorem zero_code : (Str.ofString "0").cps.getD 0 0 = 48 := by decide +kernel
theorem rj_list {u i : Int} (h1 : 1 ≤ i) (h2 : u.natAbs < 10 ^ i.toNat) :
    (Txt.rjustF (Str.ofString (toString (if u < 0 then -u else u))) i ((Str.ofString "0").cps.getD 0 0)).cps.toList = dgs i.toNat u.natAbs := by
  rw [absI_nat, zero_code, rjustF_list, str_len, PySem.W.KIN.signs_num]
  have := (toDigits_dgs i.toNat u.natAbs (by omega) h2).1
  rw [List.length_map]
  exact this
theorem rj_len {u i : Int} (h1 : 1 ≤ i) (h2 : u.natAbs < 10 ^ i.toNat) :
    ((Txt.rjustF (Str.ofString (toString (if u < 0 then -u else u))) i ((Str.ofString "0").cps.getD 0 0)).length : Int) = i := by
  rw [str_len, rj_list h1 h2, dgs_len]; omega
/-- the told text: sign, figures with a point, noughts -/
def bodyL (d sc : Int) (n : Nat) : List Nat :=
  if 0 < sc then (dgs (max d sc).toNat n).take ((max d sc).toNat - sc.toNat) ++ 46 :: (dgs (max d sc).toNat n).drop ((max d sc).toNat - sc.toNat) else dgs (max d sc).toNat n
def tL (d sc u : Int) : List Nat := (if u < 0 then [45] else []) ++ (bodyL d sc u.natAbs ++ List.replicate (-sc).toNat 48)
def tS (d sc u : Int) : Str := mkS (tL d sc u)
end Mine
/-! part P2 -/
namespace Mine
theorem dash_list : (Str.ofString "-").cps.toList = [45] := by decide +kernel
theorem dot_list : (Str.ofString ".").cps.toList = [46] := by decide +kernel
theorem body_pos {R : Str} {d sc : Int} {n : Nat} (hs : 0 < sc) (hR : R.cps.toList = dgs (max d sc).toNat n) :
    (Txt.slice R none (some ((R.length : Int) - sc)) ++ Str.ofString "." ++ Txt.slice R (some ((R.length : Int) - sc)) none ++ Txt.mul (Str.ofString "0") (-sc)).cps.toList = bodyL d sc n ++ List.replicate (-sc).toNat 48 := by
  have hl : R.length = (max d sc).toNat := by rw [str_len, hR, dgs_len]
  have h1 : (0 : Int) ≤ (R.length : Int) - sc := by rw [hl]; omega
  have h2 : (R.length : Int) - sc ≤ R.length := by omega
  rw [slTo h1 h2, slFrom h1 h2]
  simp only [app_list, mkS_list, dot_list, mul0_list, hR]
  unfold bodyL
  rw [if_pos hs]
  have e : ((R.length : Int) - sc).toNat = (max d sc).toNat - sc.toNat := by rw [hl]; omega
  rw [e]
  simp
theorem body_non {R : Str} {d sc : Int} {n : Nat} (hs : ¬ 0 < sc) (hR : R.cps.toList = dgs (max d sc).toNat n) :
    (R ++ Txt.mul (Str.ofString "0") (-sc)).cps.toList = bodyL d sc n ++ List.replicate (-sc).toNat 48 := by
  simp only [app_list, mul0_list, hR]
  unfold bodyL
  rw [if_neg hs]
theorem told_neg {B : Str} {d sc u : Int} (hu : u < 0) (hB : B.cps.toList = bodyL d sc u.natAbs ++ List.replicate (-sc).toNat 48) : Str.ofString "-" ++ B = tS d sc u := by
  apply strEq
  rw [app_list, dash_list, hB]
  show _ = tL d sc u
  unfold tL; rw [if_pos hu]
theorem told_non {B : Str} {d sc u : Int} (hu : ¬ u < 0) (hB : B.cps.toList = bodyL d sc u.natAbs ++ List.replicate (-sc).toNat 48) : B = tS d sc u := by
  apply strEq
  rw [hB]
  show _ = tL d sc u
  unfold tL; rw [if_neg hu]; rfl
theorem max_eq (d sc : Int) : (if sc > d then sc else d) = max d sc := by omega
theorem rj_list' {d sc u : Int} (h1 : 1 ≤ (if sc > d then sc else d)) (h2 : u.natAbs < 10 ^ (if sc > d then sc else d).toNat) :
    (Txt.rjustF (Str.ofString (toString (if u < 0 then -u else u))) (if sc > d then sc else d) ((Str.ofString "0").cps.getD 0 0)).cps.toList = dgs (max d sc).toNat u.natAbs := by
  rw [rj_list h1 h2, max_eq]
end Mine
namespace Mine
open KStt in
def wv (l : List Int) : Int := l.foldl (fun a c => a * 10 + (c - 48)) 0
theorem wv_snoc (l : List Int) (c : Int) : wv (l ++ [c]) = wv l * 10 + (c - 48) := by unfold wv; rw [List.foldl_append]; rfl
theorem find_fig {n : Nat} (h1 : 48 ≤ n) (h2 : n ≤ 57) : Txt.find (Str.ofString "0123456789") ⟨#[n]⟩ = (n : Int) - 48 := by
  have h : n = 48 ∨ n = 49 ∨ n = 50 ∨ n = 51 ∨ n = 52 ∨ n = 53 ∨ n = 54 ∨ n = 55 ∨ n = 56 ∨ n = 57 := by omega
  rcases h with rfl | rfl | rfl | rfl | rfl | rfl | rfl | rfl | rfl | rfl <;> decide +kernel
theorem code_in {x : Str} {pre post : List Int} {n : Nat} (hx : ∀ c ∈ KStt.codes x, (48 : Int) ≤ c ∧ c ≤ 57) (e : KStt.codes x = pre ++ (n : Int) :: post) : 48 ≤ n ∧ n ≤ 57 := by
  have := hx n (by rw [e]; simp)
  omega
theorem wv_step {x : Str} {pre post : List Int} {n : Nat} {a : Int} (hx : ∀ c ∈ KStt.codes x, (48 : Int) ≤ c ∧ c ≤ 57) (e : KStt.codes x = pre ++ (n : Int) :: post) (ha : a = wv pre) :
    a * 10 + Txt.find (Str.ofString "0123456789") ⟨#[n]⟩ = wv (pre ++ [(n : Int)]) := by
  have h := code_in hx e
  rw [wv_snoc, find_fig h.1 h.2, ha]
theorem no_find {x : Str} {pre post : List Int} {n : Nat} (hx : ∀ c ∈ KStt.codes x, (48 : Int) ≤ c ∧ c ≤ 57) (e : KStt.codes x = pre ++ (n : Int) :: post) (hf : Txt.find (Str.ofString "0123456789") ⟨#[n]⟩ = -1) : False := by
  have h := code_in hx e
  rw [find_fig h.1 h.2] at hf; omega
end Mine
namespace Mine
theorem dgs_cons : ∀ (k n : Nat), dgs (k + 1) n = (48 + n / 10 ^ k % 10) :: dgs k n
  | 0, n => by simp [dgs]
  | k + 1, n => by
    show dgs (k + 1) (n / 10) ++ [48 + n % 10] = _
    rw [dgs_cons k (n / 10)]
    rw [Nat.div_div_eq_div_mul, Nat.pow_succ, Nat.mul_comm 10]
    rfl
theorem item_fig {d : Int} (h0 : 0 ≤ d) (h1 : d < 10) : (Txt.item (Str.ofString "0123456789") d).cps.toList = [48 + d.toNat] := by
  have h : d = 0 ∨ d = 1 ∨ d = 2 ∨ d = 3 ∨ d = 4 ∨ d = 5 ∨ d = 6 ∨ d = 7 ∨ d = 8 ∨ d = 9 := by omega
  rcases h with rfl | rfl | rfl | rfl | rfl | rfl | rfl | rfl | rfl | rfl <;> decide +kernel
theorem lf_step {n : Int} {pre : List Int} {x : Int} {a : Int} {f : Str} (ha : a = ((n.toNat / 10 ^ pre.length : Nat) : Int) ∧ f = mkS (dgs pre.length n.toNat) ∧ f.length = pre.length) :
    a.fdiv 10 = ((n.toNat / 10 ^ (pre ++ [x]).length : Nat) : Int) ∧ Txt.item (Str.ofString "0123456789") (a.fmod 10) ++ f = mkS (dgs (pre ++ [x]).length n.toNat) ∧ (Txt.item (Str.ofString "0123456789") (a.fmod 10) ++ f).length = (pre ++ [x]).length := by
  obtain ⟨rfl, rfl, -⟩ := ha
  have hl : (pre ++ [x]).length = pre.length + 1 := by simp
  have e : (Txt.item (Str.ofString "0123456789") ((((n.toNat / 10 ^ pre.length : Nat) : Int)).fmod 10) ++ mkS (dgs pre.length n.toNat)).cps.toList = dgs (pre.length + 1) n.toNat := by
    rw [app_list, item_fig (Int.fmod_nonneg_of_pos _ (by decide)) (Int.fmod_lt_of_pos _ (by decide)), dgs_cons, mkS_list]
    rw [Int.fmod_eq_emod_of_nonneg _ (by decide)]
    have : ((((n.toNat / 10 ^ pre.length : Nat) : Int)) % 10).toNat = n.toNat / 10 ^ pre.length % 10 := by omega
    rw [this]; rfl
  refine ⟨?_, ?_, ?_⟩
  · rw [fdiv_eq _ (by decide), hl, Nat.pow_succ, ← Nat.div_div_eq_div_mul]; omega
  · apply strEq; rw [e, hl]
  · rw [str_len, e, dgs_len, hl]
end Mine
namespace Mine
theorem body_slice {R : Str} {d sc : Int} {n : Nat} (hs : 0 < sc) (hR : R.cps.toList = dgs (max d sc).toNat n) :
    (Txt.slice R none (some ((R.length : Int) - sc)) ++ Str.ofString "." ++ Txt.slice R (some ((R.length : Int) - sc)) none).cps.toList = bodyL d sc n := by
  have hl : R.length = (max d sc).toNat := by rw [str_len, hR, dgs_len]
  have h1 : (0 : Int) ≤ (R.length : Int) - sc := by rw [hl]; omega
  have h2 : (R.length : Int) - sc ≤ R.length := by omega
  rw [slTo h1 h2, slFrom h1 h2]
  simp only [app_list, dot_list, hR]
  unfold bodyL
  rw [if_pos hs]
  have e : ((R.length : Int) - sc).toNat = (max d sc).toNat - sc.toNat := by rw [hl]; omega
  rw [e]
  simp
theorem body_plain {R : Str} {d sc : Int} {n : Nat} (hs : ¬ 0 < sc) (hR : R.cps.toList = dgs (max d sc).toNat n) : R.cps.toList = bodyL d sc n := by
  rw [hR]; unfold bodyL; rw [if_neg hs]
theorem empty_list : (Str.ofString "").cps.toList = [] := by decide +kernel
theorem due_list {d sc u : Int} : (mkS (dgs (if sc > d then sc else d).toNat (if u < 0 then -u else u).toNat)).cps.toList = dgs (max d sc).toNat u.natAbs := by
  rw [mkS_list, max_eq, absI_nat]; simp
theorem zeros_eq (sc : Int) : (if -sc > 0 then -sc else 0).toNat = (-sc).toNat := by split <;> omega
theorem due_neg {B : Str} {d sc u : Int} (hu : u < 0) (hB : B.cps.toList = bodyL d sc u.natAbs) : Str.ofString "-" ++ B ++ Txt.mul (Str.ofString "0") (if -sc > 0 then -sc else 0) = tS d sc u := by
  apply strEq
  rw [app_list, app_list, dash_list, hB, mul0_list, zeros_eq]
  show _ = tL d sc u
  unfold tL; rw [if_pos hu, List.append_assoc]
theorem due_non {B : Str} {d sc u : Int} (hu : ¬ u < 0) (hB : B.cps.toList = bodyL d sc u.natAbs) : Str.ofString "" ++ B ++ Txt.mul (Str.ofString "0") (if -sc > 0 then -sc else 0) = tS d sc u := by
  apply strEq
  rw [app_list, app_list, empty_list, hB, mul0_list, zeros_eq]
  show _ = tL d sc u
  unfold tL; rw [if_neg hu]; simp
end Mine
namespace Mine
def decN : Nat → Int → Int × Int
  | 0, u => (u, 0)
  | n + 1, u => if u.fmod 10 = 0 then decN n (u.fdiv 10) else (u, ((n + 1 : Nat) : Int))
def dec (u sc : Int) : Int × Int := if sc < 0 then (u * 10 ^ (-sc).toNat, 0) else decN sc.toNat u
theorem acc_shift {g : Int → Int → Int} {k0 x : Int} : ∀ m : Nat, accDown g k0 x (k0 - 1 - m) = accDown g (k0 - 1) (g k0 x) (k0 - 1 - m)
  | 0 => by
    rw [show k0 - 1 - ((0 : Nat) : Int) = k0 - 1 by omega, accDown_succ (Int.le_refl _), accDown_start, accDown_start]
  | m + 1 => by
    rw [show k0 - 1 - ((m + 1 : Nat) : Int) = (k0 - 1 - m) - 1 by omega, accDown_succ (by omega), accDown_succ (by omega), acc_shift m]
theorem dec_end : ∀ (n : Nat) (u k : Int), k ≤ n → 0 ≤ k →
    (∀ j : Int, k < j → j ≤ n → (if 0 < j then if ((accDown (fun _ x => x.fdiv 10) (n : Int) u j).fmod 10 == 0) = true then true else false else false) = true) →
    (if 0 < k then if ((accDown (fun _ x => x.fdiv 10) (n : Int) u k).fmod 10 == 0) = true then true else false else false) = false →
    (accDown (fun _ x => x.fdiv 10) (n : Int) u k, k) = decN n u
  | 0, u, k, h1, h2, _, _ => by
    have : k = ((0 : Nat) : Int) := by omega
    subst this
    rw [accDown_start]; rfl
  | n + 1, u, k, h1, h2, ha, hb => by
    by_cases hk : k = ((n + 1 : Nat) : Int)
    · subst hk
      rw [accDown_start] at hb ⊢
      have hu : ¬ u.fmod 10 = 0 := by
        intro hu; rw [hu] at hb; simp at hb
      unfold decN; rw [if_neg hu]
    · have hkn : k ≤ n := by omega
      have h3 := ha ((n + 1 : Nat) : Int) (by omega) (Int.le_refl _)
      rw [accDown_start] at h3
      have hu : u.fmod 10 = 0 := by
        by_cases hu : u.fmod 10 = 0
        · exact hu
        · exfalso; rw [if_pos (by omega)] at h3; simp [hu] at h3
      have sh : ∀ j : Int, j ≤ n → accDown (fun _ x => x.fdiv 10) ((n + 1 : Nat) : Int) u j = accDown (fun _ x => x.fdiv 10) (n : Int) (u.fdiv 10) j := by
        intro j hj
        have := acc_shift (g := fun _ x => x.fdiv 10) (k0 := ((n + 1 : Nat) : Int)) (x := u) ((n : Int) - j).toNat
        rw [show ((n + 1 : Nat) : Int) - 1 - (((n : Int) - j).toNat : Int) = j by omega] at this
        rw [this, show ((n + 1 : Nat) : Int) - 1 = (n : Int) by omega]
      unfold decN; rw [if_pos hu, sh k hkn]
      refine dec_end n (u.fdiv 10) k hkn h2 (fun j hj1 hj2 => ?_) ?_
      · rw [← sh j hj2]; exact ha j hj1 (by omega)
      · rw [← sh k hkn]; exact hb
theorem dec_end' {u sc k : Int} (h0 : 0 ≤ sc) (h1 : k ≤ sc) (h2 : min sc 0 ≤ k)
    (ha : ∀ j : Int, k < j → j ≤ sc → (if 0 < j then if ((accDown (fun _ x => x.fdiv 10) sc u j).fmod 10 == 0) = true then true else false else false) = true)
    (hb : (if 0 < k then if ((accDown (fun _ x => x.fdiv 10) sc u k).fmod 10 == 0) = true then true else false else false) = false) :
    accDown (fun _ x => x.fdiv 10) sc u k = (dec u sc).1 ∧ k = (dec u sc).2 := by
  obtain ⟨n, rfl⟩ := Int.eq_ofNat_of_zero_le h0
  have := dec_end n u k h1 (by omega) ha hb
  unfold dec
  rw [if_neg (by omega), Int.toNat_natCast, ← this]
  exact ⟨rfl, rfl⟩
end Mine
/-! part Hd3 -/
namespace Mine
abbrev shapeEs (w : World) (d sc : Int) (td ts : Tok) (vc vs vp vu vg v1 v2 v3 : Value) (k0 k1 k2 k3 k4 k5 k6 k7 k8 k9 k10 : Tok) : List DictEntry :=
  [⟨PyData.keyHash w.params (Str.ofString "category"), .str (Str.ofString "category") k0, vc⟩,
   ⟨PyData.keyHash w.params (Str.ofString "size"), .str (Str.ofString "size") k1, vs⟩,
   ⟨PyData.keyHash w.params (Str.ofString "picture"), .str (Str.ofString "picture") k2, vp⟩,
   ⟨PyData.keyHash w.params (Str.ofString "usage"), .str (Str.ofString "usage") k3, vu⟩,
   ⟨PyData.keyHash w.params (Str.ofString "sign"), .str (Str.ofString "sign") k4, vg⟩,
   ⟨PyData.keyHash w.params (Str.ofString "is_separate"), .str (Str.ofString "is_separate") k5, v1⟩,
   ⟨PyData.keyHash w.params (Str.ofString "is_justified"), .str (Str.ofString "is_justified") k6, v2⟩,
   ⟨PyData.keyHash w.params (Str.ofString "is_blank_zero"), .str (Str.ofString "is_blank_zero") k7, v3⟩,
   ⟨PyData.keyHash w.params (Str.ofString "digits"), .str (Str.ofString "digits") k8, .int d td⟩,
   ⟨PyData.keyHash w.params (Str.ofString "scale"), .str (Str.ofString "scale") k9, .int sc ts⟩,
   ⟨PyData.keyHash w.params (Str.ofString "is_signed"), .str (Str.ofString "is_signed") k10, .bool true⟩]
end Mine
/-! part Lp -/
namespace Mine
section
open PySem.Calls PyProof.V PySem.Spec
variable {prog : Program} {w : World} {A : Around} {E : Value → Shared → Prop} {s : Shared} {env : Env} {h₀ : Heap} {x : Str} {body : List Stmt} {Q : Flow → Shared → Prop}
/-- a loop over a range of ints by an invariant on the frame's map and the ledger: the library's kpr_invN, the turn told by its number. -/
theorem range_inv {r : Addr} {a₀ b₀ : Int} {t₀ u₀ v₀ : Tok} {n : Nat} {m₀ : Str → Option Value} {news : List (Addr × Obj)} (J : Nat → (Str → Option Value) → List (Addr × Obj) → Prop)
    (hh : A.handled = none) (hr : IsRange s.heap r a₀ b₀ 1 t₀ u₀ v₀) (hsmall : Builtin.Range.small a₀ b₀ 1 = true) (hn : Builtin.Range.rangeSize a₀ b₀ 1 = (n : Int)) (F : Fr h₀ env.locals s.heap m₀) (N : News h₀ env.locals s.heap news) (hj : J 0 m₀ news)
    (turn : ∀ (i : Nat) t m₁ nx h tk own, i < n → OwnOff own (news.map (·.1)) → J i m₁ nx → Fr h₀ env.locals h (fun y => if y = x then some (.int (a₀ + (i : Int)) t) else m₁ y) → News h₀ env.locals h (nx ++ own) →
      wpAny (model prog w) A (execs body env) (InvPostN h₀ env.locals (J (i + 1)) own (news.map (·.1)) { s with heap := h, toks := tk } Q) E { s with heap := h, toks := tk })
    (done : ∀ m₁ nx h tk, J n m₁ nx → Fr h₀ env.locals h m₁ → News h₀ env.locals h nx → Q .next { s with heap := h, toks := tk }) :
    wpAny (model prog w) A (pyIter (.ref r)) (fun it s₂ => LoopAtV prog w A h₀ env x body Q E it s₂) E s := by
  refine kpr_invN J hh hr hsmall hn F N hj (fun i k t m₁ nx h tk own hk hoff hJ F₁ N₁ => ?_) (fun m₁ nx h tk hJ => done m₁ nx h tk (rangeKs_length a₀ n ▸ hJ))
  have hi : i < n := by
    have := (List.getElem?_eq_some_iff.mp hk).1
    rwa [rangeKs_length] at this
  have e : k = a₀ + (i : Int) := by
    simp [rangeKs, hi] at hk
    omega
  subst e
  exact turn i t m₁ nx h tk own hi hoff hJ F₁ N₁
def StillJ (x : Str) (m₀ : Str → Option Value) (news : List (Addr × Obj)) (m : Str → Option Value) (nx : List (Addr × Obj)) : Prop := nx = news ∧ ∀ z, z ≠ x → m z = m₀ z
theorem range_still {r : Addr} {a₀ b₀ : Int} {t₀ u₀ v₀ : Tok} {n : Nat} {m₀ : Str → Option Value} {news : List (Addr × Obj)}
    (hh : A.handled = none) (hr : IsRange s.heap r a₀ b₀ 1 t₀ u₀ v₀) (hsmall : Builtin.Range.small a₀ b₀ 1 = true) (hn : Builtin.Range.rangeSize a₀ b₀ 1 = (n : Int)) (F : Fr h₀ env.locals s.heap m₀) (N : News h₀ env.locals s.heap news)
    (turn : ∀ (i : Nat) t h tk own, i < n → OwnOff own (news.map (·.1)) → Fr h₀ env.locals h (fun y => if y = x then some (.int (a₀ + (i : Int)) t) else m₀ y) → News h₀ env.locals h (news ++ own) →
      wpAny (model prog w) A (execs body env) (InvPostN h₀ env.locals (StillJ x m₀ news) own (news.map (·.1)) { s with heap := h, toks := tk } Q) E { s with heap := h, toks := tk })
    (done : ∀ (u : Str → Option Value) h tk, Fr h₀ env.locals h (fun y => if y = x then u y else m₀ y) → News h₀ env.locals h news → Q .next { s with heap := h, toks := tk }) :
    wpAny (model prog w) A (pyIter (.ref r)) (fun it s₂ => LoopAtV prog w A h₀ env x body Q E it s₂) E s := by
  refine range_inv (fun _ => StillJ x m₀ news) hh hr hsmall hn F N ⟨rfl, fun _ _ => rfl⟩ ?_ ?_
  · rintro i t m₁ nx h tk own hi hoff ⟨rfl, hm⟩ F₁ N₁
    have e : (fun y => if y = x then some (Value.int (a₀ + (i : Int)) t) else m₁ y) = fun y => if y = x then some (Value.int (a₀ + (i : Int)) t) else m₀ y := by
      funext y
      by_cases h1 : y = x
      · simp [h1]
      · simp only [if_neg h1]; exact hm y h1
    rw [e] at F₁
    exact turn i t h tk own hi hoff F₁ N₁
  · rintro m₁ nx h tk ⟨rfl, hm⟩ F₁ N₁
    refine done m₁ h tk ?_ N₁
    have e : (fun y => if y = x then m₁ y else m₀ y) = m₁ := by
      funext y
      by_cases h1 : y = x
      · simp [h1]
      · simp only [if_neg h1]; exact (hm y h1).symm
    rw [e]; exact F₁
theorem still_end {L : Addr} {m₀ m' : Str → Option Value} {news own news' : List (Addr × Obj)} {s₁ : Shared} {h' : Heap} {tk : Nat} {adr : List Addr} (F : Fr h₀ L h' m') (N : News h₀ L h' news') (ha : news.map (·.1) = adr)
    (h1 : ∀ z, z ≠ x → m' z = m₀ z) (h2 : ∀ p ∈ news ++ own, p ∈ news') : InvEndN h₀ L (StillJ x m₀ news) own adr s₁ { s₁ with heap := h', toks := tk } :=
  InvEndN.intro F N ⟨rfl, h1⟩ ha (fun p hp => h2 p (List.mem_append_left _ hp)) (fun p hp => h2 p (List.mem_append_right _ hp))
end
end Mine
/-! part C1 -/
namespace Mine
local macro_rules | `(tactic| k_room) => `(tactic| ktr_room)
abbrev DecRet (news : List (Addr × Obj)) (r1 r2 : Int) (h₀ : Heap) (L : Addr) (m : Str → Option Value) (s : Shared) (Q : Value → Shared → Prop) : Prop :=
  ∀ (D : Addr) (ta tb : Tok) (h' : Heap) (tk' : Nat), (∀ p ∈ news, p.1 < D) → Fr h₀ L h' m → News h₀ L h' ((D, ({ cls := .type "tuple", data := .seq #[.int r1 ta, .int r2 tb] 0 } : Obj)) :: news) → Q (.ref D) { s with heap := h', toks := tk' }
theorem dec_ret {news : List (Addr × Obj)} {r1 r2 a b : Int} {ta tb : Tok} {D : Addr} {h₀ h' : Heap} {L : Addr} {m : Str → Option Value} {s : Shared} {tk' : Nat} {Q : Value → Shared → Prop}
    (hret : DecRet news r1 r2 h₀ L m s Q) (e1 : a = r1) (e2 : b = r2) (hl : ∀ p ∈ news, p.1 < D) (F : Fr h₀ L h' m) (N : News h₀ L h' ((D, ({ cls := .type "tuple", data := .seq #[.int a ta, .int b tb] 0 } : Obj)) :: news)) :
    Q (.ref D) { s with heap := h', toks := tk' } := by
  subst e1; subst e2
  exact hret D ta tb h' tk' hl F N
set_option maxRecDepth 100000 in
set_option maxHeartbeats 8000000 in
theorem dec_pos {w : World} : ∀ (news : List (Addr × Obj)) (u sc : Int) (t1 t2 : Tok),
   Ask w 2 news hd.heap_39 77 [.int u t1, .int sc t2] (0 ≤ sc ∧ sc ≤ 100)
    (DecRet news (dec u sc).1 (dec u sc).2) := by
  intro news u sc t1 t2
  k_with_none
  w_top off
  unfold Ask
  k_fill
  intro p loose mean mg mb dp un gd cn nms ig ic mor a ccd cl outer A₀ base h₀ L m s Q E B F X N T hpre hdp hun hret
  obtain ⟨hs1, hs2⟩ := hpre
  k_steps
  · rename (∀ j : Int, _ → _ → _ = true) => c3
    have e := dec_end' hs1 (by assumption) (by assumption) c3 (by assumption)
    exact dec_ret hret e.1 e.2 (by assumption) (by assumption) (by assumption)
set_option maxRecDepth 100000 in
set_option maxHeartbeats 8000000 in
theorem dec_neg1 {w : World} : ∀ (news : List (Addr × Obj)) (u : Int) (t1 t2 : Tok),
   Ask w 2 news hd.heap_39 77 [.int u t1, .int (-1) t2] (-(10^40) < u ∧ u < 10^40)
    (DecRet news (dec u (-1)).1 (dec u (-1)).2) := by
  intro news u t1 t2
  k_with_none
  w_top off
  unfold Ask
  k_fill
  intro p loose mean mg mb dp un gd cn nms ig ic mor a ccd cl outer A₀ base h₀ L m s Q E B F X N T hpre hdp hun hret
  obtain ⟨hu1, hu2⟩ := hpre
  k_steps
  · exact dec_ret hret rfl rfl (by assumption) (by assumption) (by assumption)
set_option maxRecDepth 100000 in
set_option maxHeartbeats 8000000 in
theorem dec_neg2 {w : World} : ∀ (news : List (Addr × Obj)) (u : Int) (t1 t2 : Tok),
   Ask w 2 news hd.heap_39 77 [.int u t1, .int (-2) t2] (-(10^40) < u ∧ u < 10^40)
    (DecRet news (dec u (-2)).1 (dec u (-2)).2) := by
  intro news u t1 t2
  k_with_none
  w_top off
  unfold Ask
  k_fill
  intro p loose mean mg mb dp un gd cn nms ig ic mor a ccd cl outer A₀ base h₀ L m s Q E B F X N T hpre hdp hun hret
  obtain ⟨hu1, hu2⟩ := hpre
  k_steps
  · exact dec_ret hret rfl rfl (by assumption) (by assumption) (by assumption)
set_option maxRecDepth 100000 in
set_option maxHeartbeats 8000000 in
theorem dec_neg3 {w : World} : ∀ (news : List (Addr × Obj)) (u : Int) (t1 t2 : Tok),
   Ask w 2 news hd.heap_39 77 [.int u t1, .int (-3) t2] (-(10^40) < u ∧ u < 10^40)
    (DecRet news (dec u (-3)).1 (dec u (-3)).2) := by
  intro news u t1 t2
  k_with_none
  w_top off
  unfold Ask
  k_fill
  intro p loose mean mg mb dp un gd cn nms ig ic mor a ccd cl outer A₀ base h₀ L m s Q E B F X N T hpre hdp hun hret
  obtain ⟨hu1, hu2⟩ := hpre
  k_steps
  · exact dec_ret hret rfl rfl (by assumption) (by assumption) (by assumption)
theorem dec_claim {w : World} (news : List (Addr × Obj)) (u sc : Int) (t1 t2 : Tok) :
   Ask w 2 news hd.heap_39 77 [.int u t1, .int sc t2] (-3 ≤ sc ∧ sc ≤ 100 ∧ -(10^40) < u ∧ u < 10^40)
    (DecRet news (dec u sc).1 (dec u sc).2) := by
  unfold Ask
  intro p loose mean mg mb dp un gd cn nms ig ic mor a ccd cl outer A₀ base h₀ L m s Q E B F X N T hpre hdp hun hret
  obtain ⟨hs1, hs2, hu1, hu2⟩ := hpre
  by_cases h : 0 ≤ sc
  · exact ask_go (dec_pos news u sc t1 t2) B F X N T ⟨h, hs2⟩ hdp hun hret
  · have h3 : sc = -1 ∨ sc = -2 ∨ sc = -3 := by omega
    rcases h3 with rfl | rfl | rfl
    · exact ask_go (dec_neg1 news u t1 t2) B F X N T ⟨hu1, hu2⟩ hdp hun hret
    · exact ask_go (dec_neg2 news u t1 t2) B F X N T ⟨hu1, hu2⟩ hdp hun hret
    · exact ask_go (dec_neg3 news u t1 t2) B F X N T ⟨hu1, hu2⟩ hdp hun hret
end Mine
/-! part C2 -/
namespace Mine
local macro_rules | `(tactic| k_room) => `(tactic| ktr_room)
set_option maxRecDepth 100000 in
set_option maxHeartbeats 8000000 in
theorem worth_claim {w : World} : ∀ (news : List (Addr × Obj)) (x : Str) (t : Tok),
   Ask w 2 news hd.heap_39 84 [.str x t] ((∀ c ∈ KStt.codes x, (48 : Int) ≤ c ∧ c ≤ 57) ∧ x.length ≤ 200)
    fun h₀ L m s Q => (∀ (ta : Tok) (h' : Heap) (tk' : Nat), Fr h₀ L h' m → News h₀ L h' news → Q (.int (wv (KStt.codes x)) ta) { s with heap := h', toks := tk' }) := by
  intro news x t
  k_with_none
  w_top off
  unfold Ask
  k_fill
  intro p loose mean mg mb dp un gd cn nms ig ic mor a ccd cl outer A₀ base h₀ L m s Q E B F X N T hpre hdp hun hret
  obtain ⟨hx, hlen⟩ := hpre
  (k_with "pyIter str" => k_state (fun pre n => n = wv pre) "number")
  (k_with "state" => first | exact wv_step hx (by assumption) (by assumption) | rfl)
  k_steps
  · exfalso; exact no_find hx (by assumption) (by assumption)
  · exact cb_retI hret (by assumption) (by assumption) (by assumption)
end Mine
/-! part C6 -/
namespace Mine
local macro_rules | `(tactic| k_room) => `(tactic| ktr_room)
set_option maxRecDepth 100000 in
set_option maxHeartbeats 8000000 in
theorem lfig_claim {w : World} : ∀ (news : List (Addr × Obj)) (n k : Int) (t1 t2 : Tok),
   Ask w 2 news hd.heap_39 148 [.int n t1, .int k t2] (0 ≤ n ∧ 0 ≤ k ∧ k ≤ 24)
    fun h₀ L m s Q => (∀ (ta : Tok) (h' : Heap) (tk' : Nat), Fr h₀ L h' m → News h₀ L h' news → Q (.str (mkS (dgs k.toNat n.toNat)) ta) { s with heap := h', toks := tk' }) := by
  intro news n k t1 t2
  k_with_none
  w_top off
  unfold Ask
  k_fill
  intro p loose mean mg mb dp un gd cn nms ig ic mor a ccd cl outer A₀ base h₀ L m s Q E B F X N T hpre hdp hun hret
  obtain ⟨hn1, hk1, hk2⟩ := hpre
  (k_with "pyIter ref" => k_state (fun pre f a => a = ((n.toNat / 10 ^ pre.length : Nat) : Int) ∧ f = mkS (dgs pre.length n.toNat) ∧ f.length = pre.length) "found" "number")
  (k_with "state" => first | exact lf_step (by assumption) | exact lf_step ⟨by assumption, by assumption, by assumption⟩ | (refine ⟨?_, rfl, rfl⟩; simp; omega))
  k_steps
  · refine cb_retS hret (Eq.trans (by assumption) ?_) (by assumption) (by assumption)
    rw [rangeKs_length, Int.sub_zero]
end Mine
/-! part C3 -/
namespace Mine
local macro_rules | `(tactic| k_room) => `(tactic| ktr_room)
set_option maxRecDepth 100000 in
set_option maxHeartbeats 8000000 in
theorem figs_claim {w : World} : ∀ (news : List (Addr × Obj)) (S D : Addr) (d sc u : Int) (tu td ts : Tok) (vc vs vp vu vg v1 v2 v3 : Value) (k0 k1 k2 k3 k4 k5 k6 k7 k8 k9 k10 : Tok),
   Ask w 2 ((S, instObj 123 D) :: (D, dictOf (shapeEs w d sc td ts vc vs vp vu vg v1 v2 v3 k0 k1 k2 k3 k4 k5 k6 k7 k8 k9 k10) 11) :: news) hd.heap_39 28 [.ref S, .int u tu] (1 ≤ d ∧ d ≤ 18 ∧ -3 ≤ sc ∧ sc ≤ 24 ∧ u.natAbs < 10 ^ d.toNat)
    fun h₀ L m s Q => (∀ (ta : Tok) (h' : Heap) (tk' : Nat), Fr h₀ L h' m → News h₀ L h' ((S, instObj 123 D) :: (D, dictOf (shapeEs w d sc td ts vc vs vp vu vg v1 v2 v3 k0 k1 k2 k3 k4 k5 k6 k7 k8 k9 k10) 11) :: news) → Q (.str (tS d sc u) ta) { s with heap := h', toks := tk' }) := by
  intro news S D d sc u tu td ts vc vs vp vu vg v1 v2 v3 k0 k1 k2 k3 k4 k5 k6 k7 k8 k9 k10
  k_with_none
  w_top off
  unfold Ask
  k_fill
  intro p loose mean mg mb dp un gd cn nms ig ic mor a ccd cl outer A₀ base h₀ L m s Q E B F X N T hpre hdp hun hret
  obtain ⟨hd1, hd2, hs1, hs2, hu⟩ := hpre
  have hi1 : 1 ≤ (if sc > d then sc else d) := by split <;> omega
  have hi2 : (if sc > d then sc else d) ≤ 24 := by split <;> omega
  have hi3 : sc ≤ (if sc > d then sc else d) := by split <;> omega
  have hu2 : u.natAbs < 10 ^ (if sc > d then sc else d).toNat := Nat.lt_of_lt_of_le hu (Nat.pow_le_pow_right (by decide) (by split <;> omega))
  have hR := rj_len hi1 hu2
  have hu3 : (if u < 0 then -u else u) < 10 ^ 18 := by
    have h1 : 10 ^ d.toNat ≤ 10 ^ 18 := Nat.pow_le_pow_right (by decide) (by omega)
    split <;> omega
  have hu4 : 0 ≤ (if u < 0 then -u else u) := by split <;> omega
  have hZ : (Txt.mul (Str.ofString "0") (-sc)).length ≤ 3 := by rw [str_len, mul0_list, List.length_replicate]; omega
  k_steps
  · exact cb_retS hret (told_neg (by assumption) (body_pos (by assumption) (rj_list' hi1 hu2))) (by assumption) (by assumption)
  · exact cb_retS hret (told_non (by assumption) (body_pos (by assumption) (rj_list' hi1 hu2))) (by assumption) (by assumption)
  · exact cb_retS hret (told_neg (by assumption) (body_non (by assumption) (rj_list' hi1 hu2))) (by assumption) (by assumption)
  · exact cb_retS hret (told_non (by assumption) (body_non (by assumption) (rj_list' hi1 hu2))) (by assumption) (by assumption)
end Mine
/-! part C4 -/
namespace Mine
local macro_rules | `(tactic| k_room) => `(tactic| ktr_room)
set_option maxRecDepth 100000 in
set_option maxHeartbeats 8000000 in
theorem shape_claim {w : World} : ∀ (news : List (Addr × Obj)) (x y : Str) (i d sc : Int) (t1 t2 t3 t4 t5: Tok),
   Ask w 2 news hd.heap_39 134 [.str x t1, .int i t2, .str y t3, .int d t4, .int sc t5, .bool true] (True)
    fun h₀ L m s Q => (∀ (S D : Addr) (vc vs vp vu vg v1 v2 v3 : Value) (k0 k1 k2 k3 k4 k5 k6 k7 k8 k9 k10 : Tok) (h' : Heap) (tk' : Nat), (∀ p ∈ news, p.1 < D) → D < S → Fr h₀ L h' m → News h₀ L h' ((S, instObj 123 D) :: (D, dictOf (shapeEs w d sc t4 t5 vc vs vp vu vg v1 v2 v3 k0 k1 k2 k3 k4 k5 k6 k7 k8 k9 k10) 11) :: news) → Q (.ref S) { s with heap := h', toks := tk' }) := by
  intro news x y i d sc t1 t2 t3 t4 t5
  k_with_none
  w_top off
  unfold Ask
  k_fill
  intro p loose mean mg mb dp un gd cn nms ig ic mor a ccd cl outer A₀ base h₀ L m s Q E B F X N T hpre hdp hun hret
  k_steps
  all_goals (rename News _ _ _ _ => kN'; exact hret _ _ _ _ _ _ _ _ _ _ _ _ _ _ _ _ _ _ _ _ _ _ _ (by assumption) (by assumption) (by assumption) kN')
end Mine
/-! part C7 -/
namespace Mine
local macro_rules | `(tactic| k_room) => `(tactic| ktr_room)
def PoolOk (vs : List Value) : Prop := ∃ ns, IntsAre vs ns ∧ vs.length ≤ 64 ∧ ∀ x ∈ ns, 0 ≤ x
open PySem.Calls PySem.Spec in
theorem pop0 {prog : Program} {w : World} {A : Around} {E : Value → Shared → Prop} {s : Shared} {h₀ : Heap} {L D : Addr} {m : Str → Option Value} {news news' : List (Addr × Obj)} {n : Nat} {u : Tok} {y : Value} {vs : List Value} {Q : Value → Shared → Prop}
    (F : Fr h₀ L s.heap m) (N : News h₀ L s.heap news) (U : Upd D (listOf (y :: vs).toArray n) (listOf vs.toArray (n + 1)) news news') (hz : vs.length ≤ 64)
    (h : ∀ h', Fr h₀ L h' m → News h₀ L h' news' → Q y { s with heap := h' }) : wpAny (model prog w) A (call (.builtin "list.pop") [.ref D, .int 0 u]) Q E s := by
  refine kl_popAt (p := []) (q := vs) (k := 0) F N (by decide) ?_ rfl U ?_ h
  · simp [seqIndex?]
  · rw [sizeLine_eq]; simp; omega
theorem set0 {prog : Program} {w : World} {A : Around} {E : Value → Shared → Prop} {s : Shared} {h₀ : Heap} {L D : Addr} {m : Str → Option Value} {news news' : List (Addr × Obj)} {n : Nat} {u : Tok} {y v : Value} {vs : List Value} {Q : Unit → Shared → Prop}
    (F : Fr h₀ L s.heap m) (N : News h₀ L s.heap news) (U : Upd D (listOf (y :: vs).toArray n) (listOf (v :: vs).toArray n) news news')
    (h : ∀ h', Fr h₀ L h' m → News h₀ L h' news' → Q () { s with heap := h' }) : wpAny (model prog w) A (setItem (.ref D) (.int 0 u) v) Q E s := by
  refine ki_set (q := v :: vs) F N (by decide) (by decide) ?_ U h
  rfl
theorem log_of {n : Int} (h1 : 1 ≤ n) (h2 : n ≤ 10^18) : n.natAbs.log2 < 9000 := by
  have h3 : n.natAbs ≤ 10^18 := by omega
  have h4 : n.natAbs ≠ 0 := by omega
  rw [Nat.log2_lt h4]
  exact Nat.lt_of_le_of_lt h3 (by decide +kernel)
local macro_rules | `(tactic| k_all) => `(tactic| assumption)
local macro_rules | `(tactic| walk_at "binaryOp FloorDiv int int") => `(tactic| (k_here; (rename (Nat.log2 (Int.natAbs _) < 9000) => hlg'); refine floordiv_int (by omega) ?_ (Or.inl (PyProof.noPylong_of_log2 hlg'))))
local macro_rules | `(tactic| walk_at "setItem ref int") => `(tactic| (k_here; k_dflt (refine' set0 ?F ?N ?U ?_; (case F => k_asm); (case N => k_asm); (case U => k_upd)); ki_rest))
local macro_rules | `(tactic| walk_at "call builtin:list.pop") => `(tactic| (k_here; k_dflt (refine' pop0 ?F ?N ?U ?z ?_; (case F => k_asm); (case N => k_asm); (case U => k_upd); (case z => assumption)); kl_rest))
abbrev TakeRet (news : List (Addr × Obj)) (P : Addr) (n : Int) (h₀ : Heap) (L : Addr) (m : Str → Option Value) (s : Shared) (Q : Value → Shared → Prop) : Prop :=
  ∀ (k : Int) (ta : Tok) (vs' : List Value) (c' : Nat) (h' : Heap) (tk' : Nat), 0 ≤ k → k < n → PoolOk vs' → Fr h₀ L h' m → News h₀ L h' ((P, listOf vs'.toArray c') :: news) → Q (.int k ta) { s with heap := h', toks := tk' }
set_option maxRecDepth 100000 in
set_option maxHeartbeats 8000000 in
theorem take_cons {w : World} : ∀ (news : List (Addr × Obj)) (P : Addr) (vs : List Value) (ns : List Int) (x : Int) (tx : Tok) (c : Nat) (n : Int) (t1 : Tok),
   Ask w 2 ((P, listOf (Value.int x tx :: vs).toArray c) :: news) hd.heap_39 141 [.ref P, .int n t1] (IntsAre vs ns ∧ vs.length ≤ 63 ∧ (0 ≤ x) ∧ (∀ y ∈ ns, 0 ≤ y) ∧ 1 ≤ n ∧ n ≤ 10^18 ∧ (∀ p ∈ news, p.1 ≠ P))
    (TakeRet news P n) := by
  intro news P vs ns x tx c n t1
  k_with_none
  w_top off
  unfold Ask
  k_fill
  intro p loose mean mg mb dp un gd cn nms ig ic mor a ccd cl outer A₀ base h₀ L m s Q E B F X N T hpre hdp hun hret
  obtain ⟨hI, hlen1, hx1, hns, hn1, hn2, hne⟩ := hpre
  have hlen : vs.length ≤ 64 := by omega
  have hI2 : IntsAre (Value.int x tx :: vs) (x :: ns) := .cons _ _ hI
  have hlen2 : ns.length ≤ 64 := by have := hI.length; omega
  have hlg := log_of hn1 hn2
  have hq0 : 0 ≤ x.fdiv n := Int.fdiv_nonneg hx1 (by omega)
  k_steps
  · exfalso; omega
  · refine hret _ _ vs _ _ _ (Int.fmod_nonneg_of_pos _ (by omega)) (Int.fmod_lt_of_pos _ (by omega)) ⟨ns, hI, hlen, hns⟩ (by assumption) (by assumption)
  · refine hret _ _ (_ :: vs) _ _ _ (Int.fmod_nonneg_of_pos _ (by omega)) (Int.fmod_lt_of_pos _ (by omega)) ⟨x.fdiv n :: ns, .cons _ _ hI, by simp; omega, ?_⟩ (by assumption) (by assumption)
    intro y hy
    rcases List.mem_cons.mp hy with rfl | hy
    · exact hq0
    · exact hns y hy
set_option maxRecDepth 100000 in
set_option maxHeartbeats 8000000 in
theorem take_nil {w : World} : ∀ (news : List (Addr × Obj)) (P : Addr) (c : Nat) (n : Int) (t1 : Tok),
   Ask w 2 ((P, listOf ([] : List Value).toArray c) :: news) hd.heap_39 141 [.ref P, .int n t1] (1 ≤ n)
    (TakeRet news P n) := by
  intro news P c n t1
  k_with_none
  w_top off
  unfold Ask
  k_fill
  intro p loose mean mg mb dp un gd cn nms ig ic mor a ccd cl outer A₀ base h₀ L m s Q E B F X N T hpre hdp hun hret
  have hI2 : IntsAre ([] : List Value) [] := .nil
  k_steps
  all_goals refine hret _ _ [] _ _ _ (Int.le_refl _) (by omega) ⟨[], .nil, by simp, by simp⟩ (by assumption) (by assumption)
theorem take_claim {w : World} : ∀ (news : List (Addr × Obj)) (P : Addr) (vs : List Value) (c : Nat) (n : Int) (t1 : Tok),
   Ask w 2 ((P, listOf vs.toArray c) :: news) hd.heap_39 141 [.ref P, .int n t1] (PoolOk vs ∧ 1 ≤ n ∧ n ≤ 10^18 ∧ (∀ p ∈ news, p.1 ≠ P))
    (TakeRet news P n) := by
  intro news P vs c n t1
  unfold Ask
  intro p loose mean mg mb dp un gd cn nms ig ic mor a ccd cl outer A₀ base h₀ L m s Q E B F X N T hpre hdp hun hret
  obtain ⟨⟨ns, hI, hl, hns⟩, hn1, hn2, hne⟩ := hpre
  cases hI with
  | nil => exact take_nil news P c n t1 p loose mean mg mb dp un gd cn nms ig ic mor a ccd cl outer A₀ base h₀ L m s Q E B F X N T hn1 hdp hun hret
  | cons x tx hI =>
    refine take_cons news P _ _ _ _ c n t1 p loose mean mg mb dp un gd cn nms ig ic mor a ccd cl outer A₀ base h₀ L m s Q E B F X N T ⟨hI, ?_, hns _ (.head _), fun y hy => hns y (.tail _ hy), hn1, hn2, hne⟩ hdp hun hret
    simp at hl; omega
end Mine
/-! part C8 -/
namespace Mine
local macro_rules | `(tactic| k_room) => `(tactic| ktr_room)
local macro_rules | `(tactic| walk_at "call ref") => `(tactic| (k_here; (with_reducible show wpAny _ _ (call (Value.ref 148) _) _ _ _); k_dflt (refine' ask_go (lfig_claim _ _ _ _ _) ?B ?F ?X ?N ?T ?p ?d ?u ?_; (case B => k_asm); (case F => k_asm); (case X => k_asm); (case N => k_asm); (case T => k_asm); (case p => (refine ⟨?_, ?_, ?_⟩ <;> (first | assumption | omega | (split <;> omega)))); (case d => ktr_room); (case u => ktr_units)); intro t9 h9 tk9 F9 N9; (try dsimp only); (try k_fold)))
set_option maxRecDepth 100000 in
set_option maxHeartbeats 8000000 in
theorem due_claim {w : World} : ∀ (news : List (Addr × Obj)) (u d sc : Int) (t1 t2 t3 : Tok),
   Ask w 4 news hd.heap_39 155 [.int u t1, .int d t2, .int sc t3] (1 ≤ d ∧ d ≤ 18 ∧ -3 ≤ sc ∧ sc ≤ 24)
    fun h₀ L m s Q => (∀ (ta : Tok) (h' : Heap) (tk' : Nat), Fr h₀ L h' m → News h₀ L h' news → Q (.str (tS d sc u) ta) { s with heap := h', toks := tk' }) := by
  intro news u d sc t1 t2 t3
  k_with_none
  w_top off
  unfold Ask
  k_fill
  intro p loose mean mg mb dp un gd cn nms ig ic mor a ccd cl outer A₀ base h₀ L m s Q E B F X N T hpre hdp hun hret
  obtain ⟨hd1, hd2, hs1, hs2⟩ := hpre
  have hR : (mkS (dgs (if sc > d then sc else d).toNat (if u < 0 then -u else u).toNat)).length = (if sc > d then sc else d).toNat := by rw [str_len]; exact dgs_len _ _
  have hi1 : 1 ≤ (if sc > d then sc else d) := by split <;> omega
  have hi2 : (if sc > d then sc else d) ≤ 24 := by split <;> omega
  have hi3 : sc ≤ (if sc > d then sc else d) := by split <;> omega
  have hu4 : 0 ≤ (if u < 0 then -u else u) := by split <;> omega
  k_steps
  · exact cb_retS hret (due_neg (by assumption) (body_slice (by assumption) due_list)) (by assumption) (by assumption)
  · exact cb_retS hret (due_non (by assumption) (body_slice (by assumption) due_list)) (by assumption) (by assumption)
  · exact cb_retS hret (due_neg (by assumption) (body_plain (by assumption) due_list)) (by assumption) (by assumption)
  · exact cb_retS hret (due_non (by assumption) (body_plain (by assumption) due_list)) (by assumption) (by assumption)
end Mine
/-! part P3 -/
namespace Mine
def Dig (l : List Nat) : Prop := ∀ c ∈ l, 48 ≤ c ∧ c ≤ 57
theorem dot_eq : Str.ofString "." = mkS [46] := by decide +kernel
theorem fig_eq : Str.ofString "0123456789" = mkS [48,49,50,51,52,53,54,55,56,57] := by decide +kernel
theorem empty_eq : Str.ofString "" = mkS [] := by decide +kernel
theorem plus_eq : Str.ofString "+" = mkS [43] := by decide +kernel
theorem dash_eq : Str.ofString "-" = mkS [45] := by decide +kernel
theorem occ_no {Y : List Nat} (h : 46 ∉ Y) : (Builtin.Str.occurrences (mkS Y) (Str.ofString ".") 0 (mkS Y).length 1).isEmpty = true := by
  have := StrLaws.found_one (mkS Y) 46
  rw [dot_eq]
  rw [mkS_list, decide_eq_false h] at this
  simpa using this
theorem occ_yes {Y : List Nat} (h : 46 ∈ Y) : (Builtin.Str.occurrences (mkS Y) (Str.ofString ".") 0 (mkS Y).length 1).isEmpty = false := by
  have := StrLaws.found_one (mkS Y) 46
  rw [dot_eq]
  rw [mkS_list, decide_eq_true h] at this
  simpa using this
theorem find_dot {A B : List Nat} (h : 46 ∉ A) : Txt.find (mkS (A ++ 46 :: B)) (Str.ofString ".") = (A.length : Int) := by
  rw [dot_eq]
  rcases StrLaws.occ_head (mkS (A ++ 46 :: B)) ⟨#[46]⟩ 1 (Nat.le_refl _) with ⟨_, h1⟩ | ⟨i, r, e, hi, hk⟩
  · exfalso
    refine h1 A.length ?_
    have := (StrLaws.subAt_one (mkS (A ++ 46 :: B)) 46 A.length).mpr (by rw [mkS_list]; simp)
    exact this
  · have hi2 := (StrLaws.subAt_one (mkS (A ++ 46 :: B)) 46 i).mp hi
    rw [mkS_list] at hi2
    have hge : A.length ≤ i := by
      false_or_by_contra
      rename_i hc
      rw [List.getElem?_append_left (by omega)] at hi2
      exact h (List.mem_of_getElem? hi2)
    have hle : i ≤ A.length := by
      false_or_by_contra
      rename_i hc
      refine hk A.length (by omega) ?_
      exact (StrLaws.subAt_one (mkS (A ++ 46 :: B)) 46 A.length).mpr (by rw [mkS_list]; simp)
    unfold Txt.find
    have e' : Builtin.Str.occurrences (mkS (A ++ 46 :: B)) (mkS [46]) 0 (mkS (A ++ 46 :: B)).length 1 = i :: r := e
    rw [e']
    show (i : Int) = _
    omega
theorem occ_fig {c : Nat} (h1 : 48 ≤ c) (h2 : c ≤ 57) : (Builtin.Str.occurrences (Str.ofString "0123456789") (mkS [c]) 0 (Str.ofString "0123456789").length 1).isEmpty = false := by
  have := StrLaws.found_one (Str.ofString "0123456789") c
  have hm : c ∈ (Str.ofString "0123456789").cps.toList := by
    rw [fig_eq, mkS_list]; simp; omega
  rw [decide_eq_true hm] at this
  simpa using this
theorem item_mk {l : List Nat} {k : Int} {c : Nat} (h0 : 0 ≤ k) (h : l[k.toNat]? = some c) : Txt.item (mkS l) k = mkS [c] := by
  have hlt : k.toNat < l.length := (List.getElem?_eq_some_iff.mp h).1
  unfold Txt.item Txt.charAt seqIndex?
  have hl : (mkS l).length = l.length := by rw [str_len, mkS_list]
  rw [hl]
  have : ¬ k < 0 := by omega
  simp only [this, if_false]
  rw [if_pos (by simp; omega)]
  simp [h]
theorem dig_no {l : List Nat} (h : Dig l) : 46 ∉ l := fun hm => by have := h 46 hm; omega
theorem first_not {c : Nat} (h1 : 46 ≤ c) (h2 : c ≤ 57) : ([Str.ofString "+", Str.ofString "-"].any fun y => y == mkS [c]) = false ∧ (mkS [c] == Str.ofString "-") = false := by
  have h : c = 46 ∨ c = 47 ∨ c = 48 ∨ c = 49 ∨ c = 50 ∨ c = 51 ∨ c = 52 ∨ c = 53 ∨ c = 54 ∨ c = 55 ∨ c = 56 ∨ c = 57 := by omega
  rcases h with rfl | rfl | rfl | rfl | rfl | rfl | rfl | rfl | rfl | rfl | rfl | rfl <;> exact ⟨by decide +kernel, by decide +kernel⟩
theorem first_dash : ([Str.ofString "+", Str.ofString "-"].any fun y => y == mkS [45]) = true ∧ (mkS [45] == Str.ofString "-") = true := ⟨by decide +kernel, by decide +kernel⟩
theorem codes_mk (l : List Nat) : KStt.codes (mkS l) = l.map fun (c : Nat) => (c : Int) := rfl
theorem wv_dgs : ∀ (k n : Nat), n < 10 ^ k → wv ((dgs k n).map fun (c : Nat) => (c : Int)) = n
  | 0, n, h => by
    have : n = 0 := by simpa using h
    subst this; rfl
  | k + 1, n, h => by
    have hlt : n / 10 < 10 ^ k := by rw [Nat.pow_succ] at h; omega
    show wv ((dgs k (n / 10) ++ [48 + n % 10]).map fun (c : Nat) => (c : Int)) = n
    rw [List.map_append, List.map_singleton, wv_snoc, wv_dgs k _ hlt]
    omega
theorem wv_zeros (l : List Int) : ∀ z : Nat, wv (l ++ List.replicate z 48) = wv l * 10 ^ z
  | 0 => by simp
  | z + 1 => by
    rw [List.replicate_succ', ← List.append_assoc, wv_snoc, wv_zeros l z, Int.pow_succ]
    rw [Int.mul_assoc]; omega
theorem beq_mk {l : List Nat} (h : l ≠ []) : (mkS l == Str.ofString "") = false := by
  rw [empty_eq, beq_eq_false_iff_ne]
  intro e
  exact h (congrArg (fun s : Str => s.cps.toList) e)
theorem beq_mk_nil : (Str.ofString "" == Str.ofString "") = true := by decide +kernel
theorem app_mk (a b : List Nat) : mkS a ++ mkS b = mkS (a ++ b) := strEq (by rw [app_list])
theorem app_empty (a : List Nat) : mkS a ++ Str.ofString "" = mkS a := by rw [empty_eq, app_mk, List.append_nil]
theorem dig_at {A B : List Nat} (hA : Dig A) (hB : Dig B) {j : Nat} (h1 : j < (A ++ 46 :: B).length) (h2 : j ≠ A.length) : ∃ c, (A ++ 46 :: B)[j]? = some c ∧ 48 ≤ c ∧ c ≤ 57 := by
  by_cases h : j < A.length
  · refine ⟨A[j], ?_, hA _ (List.getElem_mem h)⟩
    rw [List.getElem?_append_left h]; simp [h]
  · obtain ⟨t, ht⟩ : ∃ t, j - A.length = t + 1 := ⟨j - A.length - 1, by omega⟩
    have h3 : t < B.length := by simp at h1; omega
    refine ⟨B[t], ?_, hB _ (List.getElem_mem h3)⟩
    rw [List.getElem?_append_right (by omega), ht, List.getElem?_cons_succ]; simp [h3]
theorem mk_len (l : List Nat) : (mkS l).length = l.length := by rw [str_len, mkS_list]
theorem cut1 {c : Nat} {Y : List Nat} : Txt.slice (mkS (c :: Y)) none (some 1) = mkS [c] := by
  rw [slTo (by decide) (by rw [mk_len]; simp; omega)]; rfl
theorem from1 {c : Nat} {Y : List Nat} : Txt.slice (mkS (c :: Y)) (some 1) none = mkS Y := by
  rw [slFrom (by decide) (by rw [mk_len]; simp; omega)]; rfl
theorem from0 {Y : List Nat} : Txt.slice (mkS Y) (some 0) none = mkS Y := by
  rw [slFrom (by decide) (by omega)]; rfl
theorem ahead_eq {A B : List Nat} : Txt.slice (mkS (A ++ 46 :: B)) none (some (A.length : Int)) = mkS A := by
  rw [slTo (by omega) (by rw [mk_len]; simp; omega)]; simp
theorem behind_eq {A B : List Nat} : Txt.slice (mkS (A ++ 46 :: B)) (some ((A.length : Int) + 1)) none = mkS B := by
  rw [slFrom (by omega) (by rw [mk_len]; simp; omega)]
  have : ((A.length : Int) + 1).toNat = A.length + 1 := by omega
  rw [this, mkS_list, List.drop_append]; simp
theorem dig_codes {A : List Nat} (h : Dig A) : ∀ c ∈ KStt.codes (mkS A), (48 : Int) ≤ c ∧ c ≤ 57 := by
  intro c hc
  rw [codes_mk] at hc
  obtain ⟨d, hd, rfl⟩ := List.mem_map.mp hc
  have := h d hd; omega
theorem dig_app {A B : List Nat} (hA : Dig A) (hB : Dig B) : Dig (A ++ B) := fun c hc => (List.mem_append.mp hc).elim (hA c) (hB c)
abbrev wn (l : List Nat) : Int := wv (l.map fun (c : Nat) => (c : Int))
theorem wv_codes (l : List Nat) : wv (KStt.codes (mkS l)) = wn l := rfl
theorem item_ok1 {sg A B : List Nat} (hA : Dig A) (hB : Dig B) {k : Int} (h0 : (sg.length : Int) ≤ k) (h1 : k < (mkS (sg ++ (A ++ 46 :: B))).length) (h2 : k ≠ (sg.length : Int) + ((mkS A).length : Int)) :
    (Builtin.Str.occurrences (Str.ofString "0123456789") (Txt.item (mkS (sg ++ (A ++ 46 :: B))) k) 0 (Str.ofString "0123456789").length 1).isEmpty = false := by
  rw [mk_len] at h1 h2
  obtain ⟨c, hc, c1, c2⟩ := dig_at hA hB (j := k.toNat - sg.length) (by rw [List.length_append] at h1; omega) (by omega)
  rw [item_mk (c := c) (by omega) (by rw [List.getElem?_append_right (by omega)]; exact hc)]
  exact occ_fig c1 c2
theorem item_ok0 {sg A : List Nat} (hA : Dig A) {k : Int} (h0 : (sg.length : Int) ≤ k) (h1 : k < (mkS (sg ++ A)).length) :
    (Builtin.Str.occurrences (Str.ofString "0123456789") (Txt.item (mkS (sg ++ A)) k) 0 (Str.ofString "0123456789").length 1).isEmpty = false := by
  rw [mk_len, List.length_append] at h1
  have h3 : k.toNat - sg.length < A.length := by omega
  have hd := hA _ (List.getElem_mem h3)
  rw [item_mk (c := A[k.toNat - sg.length]) (by omega) (by rw [List.getElem?_append_right (by omega)]; simp [h3])]
  exact occ_fig hd.1 hd.2
end Mine
/-! part C5 -/
namespace Mine
local macro_rules | `(tactic| k_room) => `(tactic| ktr_room)
local macro_rules | `(tactic| walk_at "pyIter ref") => `(tactic| (k_here; (with_reducible show wpAny _ _ (pyIter (Value.ref _)) (fun it s₂ => LoopAtV _ _ _ _ _ _ _ _ _ it s₂) _ _); (rename Fr _ _ _ _ => lF'); (rename News _ _ _ _ => lN'); (rename IsRange _ _ _ _ _ _ _ _ => rgX); (with_unfolding_all refine' range_still (by rfl) rgX (by exact small_one (by omega) (by omega) (by omega) (by omega)) (by exact rangeSize_nat _ _) lF' lN' (fun i' t' h' tk' own' hi' off' F' N' => ?_) (fun u' h' tk' F' N' => ?_)); (all_goals (try clear lF' lN')); (all_goals (try k_fold))))
local macro_rules | `(tactic| walk_at "InvEndN") => `(tactic| ((rename News _ _ _ _ => nE'); refine still_end (by assumption) nE' rfl ?_ ?_; (· intro z hz; simp [hz]); (· exact fun _ hp => hp)))
local macro_rules | `(tactic| walk_at "call ref") => `(tactic| (k_here; (with_reducible show wpAny _ _ (call (Value.ref 84) _) _ _ _); k_dflt (refine' ask_go (worth_claim _ _ _) ?B ?F ?X ?N ?T ?p ?d ?u ?_; (case B => k_asm); (case F => k_asm); (case X => k_asm); (case N => k_asm); (case T => k_asm); (case p => (refine ⟨?_, ?_⟩ <;> first | assumption | omega)); (case d => ktr_room); (case u => ktr_units)); intro t9 h9 tk9 F9 N9; (try dsimp only); (try k_fold)))
local macro_rules | `(tactic| walk_at "call ref") => `(tactic| (k_here; (with_reducible show wpAny _ _ (call (Value.ref 77) _) _ _ _); k_dflt (refine' ask_go (dec_claim _ _ _ _ _) ?B ?F ?X ?N ?T ?p ?d ?u ?_; (case B => k_asm); (case F => k_asm); (case X => k_asm); (case N => k_asm); (case T => k_asm); (case p => (refine ⟨?_, ?_, ?_, ?_⟩ <;> first | assumption | omega)); (case d => ktr_room); (case u => ktr_units)); intro D9 ta9 tb9 h9 tk9 l9 F9 N9; (try dsimp only); (try k_fold)))
set_option maxRecDepth 100000 in
set_option maxHeartbeats 8000000 in
theorem rd_walk00 {w : World} : ∀ (news : List (Addr × Obj)) (x : Str) (t : Tok) (r : Int),
   Ask w 4 news hd.heap_39 91 [.str x t] ((1 ≤ x.length ∧ x.length ≤ 60) ∧
     ([Str.ofString "+", Str.ofString "-"].any fun y => y == Txt.slice x none (some 1)) = false ∧
     (Builtin.Str.occurrences (Txt.slice x (some 0) none) (Str.ofString ".") 0 (Txt.slice x (some 0) none).length 1).isEmpty = true ∧
     ((Str.ofString "") == Str.ofString "") = true ∧
     ((Txt.slice x (some 0) none) ++ (Str.ofString "") == Str.ofString "") = false ∧
     (Txt.slice x none (some 1) == Str.ofString "-") = false ∧
     (∀ c ∈ KStt.codes ((Txt.slice x (some 0) none) ++ (Str.ofString "")), (48 : Int) ≤ c ∧ c ≤ 57) ∧
     (∀ k : Int, 0 ≤ k → k < x.length → k ≠ 0 + ((Txt.slice x (some 0) none).length : Int) → (Builtin.Str.occurrences (Str.ofString "0123456789") (Txt.item x k) 0 (Str.ofString "0123456789").length 1).isEmpty = false) ∧
     -(10^40) < wv (KStt.codes ((Txt.slice x (some 0) none) ++ (Str.ofString ""))) ∧ wv (KStt.codes ((Txt.slice x (some 0) none) ++ (Str.ofString ""))) < 10^40)
    (DecRet news (dec (wv (KStt.codes ((Txt.slice x (some 0) none) ++ (Str.ofString "")))) (Str.ofString "").length).1 (dec (wv (KStt.codes ((Txt.slice x (some 0) none) ++ (Str.ofString "")))) (Str.ofString "").length).2) := by
  intro news x t r
  k_with_none
  w_top off
  unfold Ask
  k_fill
  intro p loose mean mg mb dp un gd cn nms ig ic mor a ccd cl outer A₀ base h₀ L m s Q E B F X N T hpre hdp hun hret
  have hE : (Str.ofString "").length = 0 := by decide +kernel
  obtain ⟨⟨hx, hlen⟩, f1, f2, f3, f4, f5, f6, f7, f8, f9⟩ := hpre
  k_steps
  · exfalso
    rename ((Builtin.Str.occurrences _ _ _ _ _).isEmpty = true) => hq
    rename ((_ : Int) ≠ _) => hne
    have hq2 := f7 _ (by omega) (by omega) hne
    rw [hq2] at hq; exact absurd hq (by decide)
  · rename (∀ p ∈ _, _ < _) => l9
    rename News _ _ _ _ => N9
    exact dec_ret hret rfl rfl (fun p hp => l9 p (.tail _ (.tail _ hp))) (by assumption) (cb_drop N9 (by kcj_all))
set_option maxRecDepth 100000 in
set_option maxHeartbeats 8000000 in
theorem rd_walk01 {w : World} : ∀ (news : List (Addr × Obj)) (x : Str) (t : Tok) (r : Int),
   Ask w 4 news hd.heap_39 91 [.str x t] ((1 ≤ x.length ∧ x.length ≤ 60) ∧
     ([Str.ofString "+", Str.ofString "-"].any fun y => y == Txt.slice x none (some 1)) = false ∧
     (Builtin.Str.occurrences (Txt.slice x (some 0) none) (Str.ofString ".") 0 (Txt.slice x (some 0) none).length 1).isEmpty = false ∧
     ((Txt.slice (Txt.slice x (some 0) none) (some ((Txt.find (Txt.slice x (some 0) none) (Str.ofString ".")) + 1)) none) == Str.ofString "") = false ∧
     ((Txt.slice (Txt.slice x (some 0) none) none (some (Txt.find (Txt.slice x (some 0) none) (Str.ofString ".")))) ++ (Txt.slice (Txt.slice x (some 0) none) (some ((Txt.find (Txt.slice x (some 0) none) (Str.ofString ".")) + 1)) none) == Str.ofString "") = false ∧
     (Txt.slice x none (some 1) == Str.ofString "-") = false ∧
     (∀ c ∈ KStt.codes ((Txt.slice (Txt.slice x (some 0) none) none (some (Txt.find (Txt.slice x (some 0) none) (Str.ofString ".")))) ++ (Txt.slice (Txt.slice x (some 0) none) (some ((Txt.find (Txt.slice x (some 0) none) (Str.ofString ".")) + 1)) none)), (48 : Int) ≤ c ∧ c ≤ 57) ∧
     (∀ k : Int, 0 ≤ k → k < x.length → k ≠ 0 + ((Txt.slice (Txt.slice x (some 0) none) none (some (Txt.find (Txt.slice x (some 0) none) (Str.ofString ".")))).length : Int) → (Builtin.Str.occurrences (Str.ofString "0123456789") (Txt.item x k) 0 (Str.ofString "0123456789").length 1).isEmpty = false) ∧
     -(10^40) < wv (KStt.codes ((Txt.slice (Txt.slice x (some 0) none) none (some (Txt.find (Txt.slice x (some 0) none) (Str.ofString ".")))) ++ (Txt.slice (Txt.slice x (some 0) none) (some ((Txt.find (Txt.slice x (some 0) none) (Str.ofString ".")) + 1)) none))) ∧ wv (KStt.codes ((Txt.slice (Txt.slice x (some 0) none) none (some (Txt.find (Txt.slice x (some 0) none) (Str.ofString ".")))) ++ (Txt.slice (Txt.slice x (some 0) none) (some ((Txt.find (Txt.slice x (some 0) none) (Str.ofString ".")) + 1)) none))) < 10^40)
    (DecRet news (dec (wv (KStt.codes ((Txt.slice (Txt.slice x (some 0) none) none (some (Txt.find (Txt.slice x (some 0) none) (Str.ofString ".")))) ++ (Txt.slice (Txt.slice x (some 0) none) (some ((Txt.find (Txt.slice x (some 0) none) (Str.ofString ".")) + 1)) none)))) (Txt.slice (Txt.slice x (some 0) none) (some ((Txt.find (Txt.slice x (some 0) none) (Str.ofString ".")) + 1)) none).length).1 (dec (wv (KStt.codes ((Txt.slice (Txt.slice x (some 0) none) none (some (Txt.find (Txt.slice x (some 0) none) (Str.ofString ".")))) ++ (Txt.slice (Txt.slice x (some 0) none) (some ((Txt.find (Txt.slice x (some 0) none) (Str.ofString ".")) + 1)) none)))) (Txt.slice (Txt.slice x (some 0) none) (some ((Txt.find (Txt.slice x (some 0) none) (Str.ofString ".")) + 1)) none).length).2) := by
  intro news x t r
  k_with_none
  w_top off
  unfold Ask
  k_fill
  intro p loose mean mg mb dp un gd cn nms ig ic mor a ccd cl outer A₀ base h₀ L m s Q E B F X N T hpre hdp hun hret
  have hE : (Str.ofString "").length = 0 := by decide +kernel
  obtain ⟨⟨hx, hlen⟩, f1, f2, f3, f4, f5, f6, f7, f8, f9⟩ := hpre
  k_steps
  · exfalso
    rename ((Builtin.Str.occurrences _ _ _ _ _).isEmpty = true) => hq
    rw [hq] at f2; exact absurd f2 (by decide)
  · exfalso
    rename ((Builtin.Str.occurrences _ _ _ _ _).isEmpty = true) => hq
    rename ((_ : Int) ≠ _) => hne
    have hq2 := f7 _ (by omega) (by omega) hne
    rw [hq2] at hq; exact absurd hq (by decide)
  · rename (∀ p ∈ _, _ < _) => l9
    rename News _ _ _ _ => N9
    exact dec_ret hret rfl rfl (fun p hp => l9 p (.tail _ (.tail _ (.tail _ hp)))) (by assumption) (cb_drop N9 (by kcj_all))
set_option maxRecDepth 100000 in
set_option maxHeartbeats 8000000 in
theorem rd_walk10 {w : World} : ∀ (news : List (Addr × Obj)) (x : Str) (t : Tok) (r : Int),
   Ask w 4 news hd.heap_39 91 [.str x t] ((1 ≤ x.length ∧ x.length ≤ 60) ∧
     ([Str.ofString "+", Str.ofString "-"].any fun y => y == Txt.slice x none (some 1)) = true ∧
     (Builtin.Str.occurrences (Txt.slice x (some 1) none) (Str.ofString ".") 0 (Txt.slice x (some 1) none).length 1).isEmpty = true ∧
     ((Str.ofString "") == Str.ofString "") = true ∧
     ((Txt.slice x (some 1) none) ++ (Str.ofString "") == Str.ofString "") = false ∧
     (Txt.slice x none (some 1) == Str.ofString "-") = true ∧
     (∀ c ∈ KStt.codes ((Txt.slice x (some 1) none) ++ (Str.ofString "")), (48 : Int) ≤ c ∧ c ≤ 57) ∧
     (∀ k : Int, 1 ≤ k → k < x.length → k ≠ 1 + ((Txt.slice x (some 1) none).length : Int) → (Builtin.Str.occurrences (Str.ofString "0123456789") (Txt.item x k) 0 (Str.ofString "0123456789").length 1).isEmpty = false) ∧
     -(10^40) < -wv (KStt.codes ((Txt.slice x (some 1) none) ++ (Str.ofString ""))) ∧ -wv (KStt.codes ((Txt.slice x (some 1) none) ++ (Str.ofString ""))) < 10^40)
    (DecRet news (dec (-wv (KStt.codes ((Txt.slice x (some 1) none) ++ (Str.ofString "")))) (Str.ofString "").length).1 (dec (-wv (KStt.codes ((Txt.slice x (some 1) none) ++ (Str.ofString "")))) (Str.ofString "").length).2) := by
  intro news x t r
  k_with_none
  w_top off
  unfold Ask
  k_fill
  intro p loose mean mg mb dp un gd cn nms ig ic mor a ccd cl outer A₀ base h₀ L m s Q E B F X N T hpre hdp hun hret
  have hE : (Str.ofString "").length = 0 := by decide +kernel
  obtain ⟨⟨hx, hlen⟩, f1, f2, f3, f4, f5, f6, f7, f8, f9⟩ := hpre
  k_steps
  · exfalso
    rename ((Builtin.Str.occurrences _ _ _ _ _).isEmpty = true) => hq
    rename ((_ : Int) ≠ _) => hne
    have hq2 := f7 _ (by omega) (by omega) hne
    rw [hq2] at hq; exact absurd hq (by decide)
  · rename (∀ p ∈ _, _ < _) => l9
    rename News _ _ _ _ => N9
    exact dec_ret hret rfl rfl (fun p hp => l9 p (.tail _ (.tail _ hp))) (by assumption) (cb_drop N9 (by kcj_all))
set_option maxRecDepth 100000 in
set_option maxHeartbeats 8000000 in
theorem rd_walk11 {w : World} : ∀ (news : List (Addr × Obj)) (x : Str) (t : Tok) (r : Int),
   Ask w 4 news hd.heap_39 91 [.str x t] ((1 ≤ x.length ∧ x.length ≤ 60) ∧
     ([Str.ofString "+", Str.ofString "-"].any fun y => y == Txt.slice x none (some 1)) = true ∧
     (Builtin.Str.occurrences (Txt.slice x (some 1) none) (Str.ofString ".") 0 (Txt.slice x (some 1) none).length 1).isEmpty = false ∧
     ((Txt.slice (Txt.slice x (some 1) none) (some ((Txt.find (Txt.slice x (some 1) none) (Str.ofString ".")) + 1)) none) == Str.ofString "") = false ∧
     ((Txt.slice (Txt.slice x (some 1) none) none (some (Txt.find (Txt.slice x (some 1) none) (Str.ofString ".")))) ++ (Txt.slice (Txt.slice x (some 1) none) (some ((Txt.find (Txt.slice x (some 1) none) (Str.ofString ".")) + 1)) none) == Str.ofString "") = false ∧
     (Txt.slice x none (some 1) == Str.ofString "-") = true ∧
     (∀ c ∈ KStt.codes ((Txt.slice (Txt.slice x (some 1) none) none (some (Txt.find (Txt.slice x (some 1) none) (Str.ofString ".")))) ++ (Txt.slice (Txt.slice x (some 1) none) (some ((Txt.find (Txt.slice x (some 1) none) (Str.ofString ".")) + 1)) none)), (48 : Int) ≤ c ∧ c ≤ 57) ∧
     (∀ k : Int, 1 ≤ k → k < x.length → k ≠ 1 + ((Txt.slice (Txt.slice x (some 1) none) none (some (Txt.find (Txt.slice x (some 1) none) (Str.ofString ".")))).length : Int) → (Builtin.Str.occurrences (Str.ofString "0123456789") (Txt.item x k) 0 (Str.ofString "0123456789").length 1).isEmpty = false) ∧
     -(10^40) < -wv (KStt.codes ((Txt.slice (Txt.slice x (some 1) none) none (some (Txt.find (Txt.slice x (some 1) none) (Str.ofString ".")))) ++ (Txt.slice (Txt.slice x (some 1) none) (some ((Txt.find (Txt.slice x (some 1) none) (Str.ofString ".")) + 1)) none))) ∧ -wv (KStt.codes ((Txt.slice (Txt.slice x (some 1) none) none (some (Txt.find (Txt.slice x (some 1) none) (Str.ofString ".")))) ++ (Txt.slice (Txt.slice x (some 1) none) (some ((Txt.find (Txt.slice x (some 1) none) (Str.ofString ".")) + 1)) none))) < 10^40)
    (DecRet news (dec (-wv (KStt.codes ((Txt.slice (Txt.slice x (some 1) none) none (some (Txt.find (Txt.slice x (some 1) none) (Str.ofString ".")))) ++ (Txt.slice (Txt.slice x (some 1) none) (some ((Txt.find (Txt.slice x (some 1) none) (Str.ofString ".")) + 1)) none)))) (Txt.slice (Txt.slice x (some 1) none) (some ((Txt.find (Txt.slice x (some 1) none) (Str.ofString ".")) + 1)) none).length).1 (dec (-wv (KStt.codes ((Txt.slice (Txt.slice x (some 1) none) none (some (Txt.find (Txt.slice x (some 1) none) (Str.ofString ".")))) ++ (Txt.slice (Txt.slice x (some 1) none) (some ((Txt.find (Txt.slice x (some 1) none) (Str.ofString ".")) + 1)) none)))) (Txt.slice (Txt.slice x (some 1) none) (some ((Txt.find (Txt.slice x (some 1) none) (Str.ofString ".")) + 1)) none).length).2) := by
  intro news x t r
  k_with_none
  w_top off
  unfold Ask
  k_fill
  intro p loose mean mg mb dp un gd cn nms ig ic mor a ccd cl outer A₀ base h₀ L m s Q E B F X N T hpre hdp hun hret
  have hE : (Str.ofString "").length = 0 := by decide +kernel
  obtain ⟨⟨hx, hlen⟩, f1, f2, f3, f4, f5, f6, f7, f8, f9⟩ := hpre
  k_steps
  · exfalso
    rename ((Builtin.Str.occurrences _ _ _ _ _).isEmpty = true) => hq
    rw [hq] at f2; exact absurd f2 (by decide)
  · exfalso
    rename ((Builtin.Str.occurrences _ _ _ _ _).isEmpty = true) => hq
    rename ((_ : Int) ≠ _) => hne
    have hq2 := f7 _ (by omega) (by omega) hne
    rw [hq2] at hq; exact absurd hq (by decide)
  · rename (∀ p ∈ _, _ < _) => l9
    rename News _ _ _ _ => N9
    exact dec_ret hret rfl rfl (fun p hp => l9 p (.tail _ (.tail _ (.tail _ hp)))) (by assumption) (cb_drop N9 (by kcj_all))
end Mine
/-! part C9 -/
namespace Mine
local macro_rules | `(tactic| k_room) => `(tactic| ktr_room)
theorem empty_len : ((Str.ofString "").length : Int) = 0 := by decide +kernel
theorem rd_00 {w : World} (news : List (Addr × Obj)) (A : List Nat) (t : Tok) (hA : Dig A) (hA0 : A ≠ []) (hl : A.length ≤ 50) (hw0 : 0 ≤ (wn A)) (hw1 : (wn A) < 10^40) :
    Ask w 4 news hd.heap_39 91 [.str (mkS A) t] True (DecRet news (dec ((wn A)) 0).1 (dec ((wn A)) 0).2) := by
  unfold Ask
  intro p loose mean mg mb dp un gd cn nms ig ic mor a ccd cl outer A₀ base h₀ L m s Q E BE F X N T hpre hdp hun hret
  obtain ⟨c, Y', hY, hc1, hc2⟩ : ∃ c Y', A = c :: Y' ∧ 46 ≤ c ∧ c ≤ 57 := by
    cases A with
    | nil => exact absurd rfl hA0
    | cons c A => exact ⟨c, _, rfl, by have := hA c (.head _); omega, (hA c (.head _)).2⟩
  have e0 : Txt.slice (mkS A) none (some 1) = mkS [c] := by rw [hY]; exact cut1
  have e1 : Txt.slice (mkS A) (some 0) none = mkS A := from0
  have p1 := first_not hc1 hc2
  refine ask_go (rd_walk00 news (mkS A) t 0) BE F X N T ?_ hdp hun ?_
  · simp only [e0, e1, app_empty]
    refine ⟨⟨?_, ?_⟩, p1.1, occ_no (dig_no hA), beq_mk_nil, beq_mk hA0, p1.2, dig_codes hA, fun k k0 k1 k2 => ?_, ?_, ?_⟩
    · rw [mk_len]; have := List.length_pos_iff.mpr hA0; omega
    · rw [mk_len]; omega
    · exact item_ok0 (sg := []) hA (by simp; omega) k1
    · rw [wv_codes]; omega
    · rw [wv_codes]; omega
  · simp only [e0, e1, app_empty, wv_codes, empty_len]
    exact hret
theorem rd_01 {w : World} (news : List (Addr × Obj)) (A B : List Nat) (t : Tok) (hA : Dig A) (hB : Dig B) (hB0 : B ≠ []) (hl : A.length + B.length ≤ 50) (hw0 : 0 ≤ (wn (A ++ B))) (hw1 : (wn (A ++ B)) < 10^40) :
    Ask w 4 news hd.heap_39 91 [.str (mkS (A ++ 46 :: B)) t] True (DecRet news (dec ((wn (A ++ B))) B.length).1 (dec ((wn (A ++ B))) B.length).2) := by
  unfold Ask
  intro p loose mean mg mb dp un gd cn nms ig ic mor a ccd cl outer A₀ base h₀ L m s Q E BE F X N T hpre hdp hun hret
  obtain ⟨c, Y', hY, hc1, hc2⟩ : ∃ c Y', (A ++ 46 :: B) = c :: Y' ∧ 46 ≤ c ∧ c ≤ 57 := by
    cases A with
    | nil => exact ⟨46, B, rfl, by omega, by omega⟩
    | cons c A => exact ⟨c, _, rfl, by have := hA c (.head _); omega, (hA c (.head _)).2⟩
  have e0 : Txt.slice (mkS (A ++ 46 :: B)) none (some 1) = mkS [c] := by rw [hY]; exact cut1
  have e1 : Txt.slice (mkS (A ++ 46 :: B)) (some 0) none = mkS (A ++ 46 :: B) := from0
  have p1 := first_not hc1 hc2
  refine ask_go (rd_walk01 news (mkS (A ++ 46 :: B)) t 0) BE F X N T ?_ hdp hun ?_
  · simp only [e0, e1, find_dot (dig_no hA), ahead_eq, behind_eq, app_mk]
    refine ⟨⟨?_, ?_⟩, p1.1, occ_yes (by simp), beq_mk hB0, beq_mk (by simp [hB0]), p1.2, dig_codes (dig_app hA hB), fun k k0 k1 k2 => ?_, ?_, ?_⟩
    · rw [mk_len]; simp; omega
    · rw [mk_len]; simp; omega
    · exact item_ok1 (sg := []) hA hB (by simp; omega) k1 (by simpa using k2)
    · rw [wv_codes]; omega
    · rw [wv_codes]; omega
  · simp only [e0, e1, find_dot (dig_no hA), ahead_eq, behind_eq, app_mk, wv_codes, mk_len]
    exact hret
theorem rd_10 {w : World} (news : List (Addr × Obj)) (A : List Nat) (t : Tok) (hA : Dig A) (hA0 : A ≠ []) (hl : A.length ≤ 50) (hw0 : 0 ≤ (wn A)) (hw1 : (wn A) < 10^40) :
    Ask w 4 news hd.heap_39 91 [.str (mkS (45 :: A)) t] True (DecRet news (dec (-(wn A)) 0).1 (dec (-(wn A)) 0).2) := by
  unfold Ask
  intro p loose mean mg mb dp un gd cn nms ig ic mor a ccd cl outer A₀ base h₀ L m s Q E BE F X N T hpre hdp hun hret
  have e0 : Txt.slice (mkS (45 :: A)) none (some 1) = mkS [45] := cut1
  have e1 : Txt.slice (mkS (45 :: A)) (some 1) none = mkS A := from1
  have p1 := first_dash
  refine ask_go (rd_walk10 news (mkS (45 :: A)) t 0) BE F X N T ?_ hdp hun ?_
  · simp only [e0, e1, app_empty]
    refine ⟨⟨?_, ?_⟩, p1.1, occ_no (dig_no hA), beq_mk_nil, beq_mk hA0, p1.2, dig_codes hA, fun k k0 k1 k2 => ?_, ?_, ?_⟩
    · rw [mk_len]; simp
    · rw [mk_len]; simp; omega
    · exact item_ok0 (sg := [45]) hA (by simp; omega) k1
    · rw [wv_codes]; omega
    · rw [wv_codes]; omega
  · simp only [e0, e1, app_empty, wv_codes, empty_len]
    exact hret
theorem rd_11 {w : World} (news : List (Addr × Obj)) (A B : List Nat) (t : Tok) (hA : Dig A) (hB : Dig B) (hB0 : B ≠ []) (hl : A.length + B.length ≤ 50) (hw0 : 0 ≤ (wn (A ++ B))) (hw1 : (wn (A ++ B)) < 10^40) :
    Ask w 4 news hd.heap_39 91 [.str (mkS (45 :: (A ++ 46 :: B))) t] True (DecRet news (dec (-(wn (A ++ B))) B.length).1 (dec (-(wn (A ++ B))) B.length).2) := by
  unfold Ask
  intro p loose mean mg mb dp un gd cn nms ig ic mor a ccd cl outer A₀ base h₀ L m s Q E BE F X N T hpre hdp hun hret
  have e0 : Txt.slice (mkS (45 :: (A ++ 46 :: B))) none (some 1) = mkS [45] := cut1
  have e1 : Txt.slice (mkS (45 :: (A ++ 46 :: B))) (some 1) none = mkS (A ++ 46 :: B) := from1
  have p1 := first_dash
  refine ask_go (rd_walk11 news (mkS (45 :: (A ++ 46 :: B))) t 0) BE F X N T ?_ hdp hun ?_
  · simp only [e0, e1, find_dot (dig_no hA), ahead_eq, behind_eq, app_mk]
    refine ⟨⟨?_, ?_⟩, p1.1, occ_yes (by simp), beq_mk hB0, beq_mk (by simp [hB0]), p1.2, dig_codes (dig_app hA hB), fun k k0 k1 k2 => ?_, ?_, ?_⟩
    · rw [mk_len]; simp
    · rw [mk_len]; simp; omega
    · exact item_ok1 (sg := [45]) hA hB (by simp; omega) k1 (by simpa using k2)
    · rw [wv_codes]; omega
    · rw [wv_codes]; omega
  · simp only [e0, e1, find_dot (dig_no hA), ahead_eq, behind_eq, app_mk, wv_codes, mk_len]
    exact hret
theorem body_wn {d sc : Int} {n : Nat} (h1 : 1 ≤ d) (h : n < 10 ^ d.toNat) : wn (dgs (max d sc).toNat n) = n :=
  wv_dgs _ _ (Nat.lt_of_lt_of_le h (Nat.pow_le_pow_right (by decide) (by omega)))
theorem dgs_dig (k n : Nat) : Dig (dgs k n) := dgs_mem k n
theorem dig_take {l : List Nat} (h : Dig l) (k : Nat) : Dig (l.take k) := fun c hc => h c (List.mem_of_mem_take hc)
theorem dig_drop {l : List Nat} (h : Dig l) (k : Nat) : Dig (l.drop k) := fun c hc => h c (List.mem_of_mem_drop hc)
theorem dig_zeros (k : Nat) : Dig (List.replicate k 48) := fun c hc => by have := (List.mem_replicate.mp hc).2; omega
theorem pow_ok {d : Int} {n : Nat} (hd : d ≤ 18) (h : n < 10 ^ d.toNat) : n < 10 ^ 18 :=
  Nat.lt_of_lt_of_le h (Nat.pow_le_pow_right (by decide) (by omega))
theorem wn_zeros (l : List Nat) (z : Nat) : wn (l ++ List.replicate z 48) = wn l * 10 ^ z := by
  show wv ((l ++ List.replicate z 48).map _) = _
  rw [List.map_append, List.map_replicate]
  exact wv_zeros _ z
theorem dec_scaled {u sc : Int} (h : ¬ 0 < sc) : dec (u * 10 ^ (-sc).toNat) 0 = dec u sc := by
  unfold dec
  rw [if_neg (by decide)]
  by_cases h0 : sc < 0
  · rw [if_pos h0]; rfl
  · have : sc = 0 := by omega
    subst this
    simp
theorem zpow_ok {sc : Int} {n : Nat} (h3 : -3 ≤ sc) (h : n < 10 ^ 18) : 0 ≤ (n : Int) * 10 ^ (-sc).toNat ∧ (n : Int) * 10 ^ (-sc).toNat < 10 ^ 40 := by
  have hz : (-sc).toNat ≤ 3 ∨ 0 < sc := by omega
  have hc : (-sc).toNat = 0 ∨ (-sc).toNat = 1 ∨ (-sc).toNat = 2 ∨ (-sc).toNat = 3 := by omega
  rcases hc with e | e | e | e <;> rw [e] <;> constructor <;> omega
theorem rd_told {w : World} (news : List (Addr × Obj)) (d sc u : Int) (t : Tok) (hd1 : 1 ≤ d) (hd2 : d ≤ 18) (hs1 : -3 ≤ sc) (hs2 : sc ≤ 24) (hu : u.natAbs < 10 ^ d.toNat) :
    Ask w 4 news hd.heap_39 91 [.str (tS d sc u) t] True (DecRet news (dec u sc).1 (dec u sc).2) := by
  have hn := pow_ok hd2 hu
  have hw := body_wn (sc := sc) hd1 hu
  have hlen : (dgs (max d sc).toNat u.natAbs).length = (max d sc).toNat := dgs_len _ _
  by_cases hs : 0 < sc
  · have hz : List.replicate (-sc).toNat 48 = ([] : List Nat) := by
      have : (-sc).toNat = 0 := by omega
      rw [this]; rfl
    have hT : tS d sc u = mkS ((if u < 0 then [45] else []) ++ ((dgs (max d sc).toNat u.natAbs).take ((max d sc).toNat - sc.toNat) ++ 46 :: (dgs (max d sc).toNat u.natAbs).drop ((max d sc).toNat - sc.toNat))) := by
      unfold tS tL bodyL
      rw [if_pos hs, hz, List.append_nil]
    have hAB : (dgs (max d sc).toNat u.natAbs).take ((max d sc).toNat - sc.toNat) ++ (dgs (max d sc).toNat u.natAbs).drop ((max d sc).toNat - sc.toNat) = dgs (max d sc).toNat u.natAbs := List.take_append_drop _ _
    have hBl : ((dgs (max d sc).toNat u.natAbs).drop ((max d sc).toNat - sc.toNat)).length = sc.toNat := by
      rw [List.length_drop, hlen]; omega
    have hBl2 : (((dgs (max d sc).toNat u.natAbs).drop ((max d sc).toNat - sc.toNat)).length : Int) = sc := by rw [hBl]; omega
    have hB0 : (dgs (max d sc).toNat u.natAbs).drop ((max d sc).toNat - sc.toNat) ≠ [] := by
      intro e; rw [e] at hBl; simp at hBl; omega
    have hAl : ((dgs (max d sc).toNat u.natAbs).take ((max d sc).toNat - sc.toNat)).length + ((dgs (max d sc).toNat u.natAbs).drop ((max d sc).toNat - sc.toNat)).length ≤ 50 := by
      rw [List.length_take, List.length_drop, hlen]; omega
    rw [hT]
    by_cases hneg : u < 0
    · rw [if_pos hneg]
      have key := rd_11 (w := w) news _ _ t (dig_take (dgs_dig _ u.natAbs) ((max d sc).toNat - sc.toNat)) (dig_drop (dgs_dig _ u.natAbs) ((max d sc).toNat - sc.toNat)) hB0 hAl (by rw [hAB, hw]; omega) (by rw [hAB, hw]; omega)
      rw [hAB, hw, hBl2, show -((u.natAbs : Nat) : Int) = u by omega] at key
      exact key
    · rw [if_neg hneg]
      have key := rd_01 (w := w) news _ _ t (dig_take (dgs_dig _ u.natAbs) ((max d sc).toNat - sc.toNat)) (dig_drop (dgs_dig _ u.natAbs) ((max d sc).toNat - sc.toNat)) hB0 hAl (by rw [hAB, hw]; omega) (by rw [hAB, hw]; omega)
      rw [hAB, hw, hBl2, show ((u.natAbs : Nat) : Int) = u by omega] at key
      exact key
  · have hT : tS d sc u = mkS ((if u < 0 then [45] else []) ++ (dgs (max d sc).toNat u.natAbs ++ List.replicate (-sc).toNat 48)) := by
      unfold tS tL bodyL
      rw [if_neg hs]
    have hA0 : dgs (max d sc).toNat u.natAbs ++ List.replicate (-sc).toNat 48 ≠ [] := by
      intro e
      have := congrArg List.length e
      rw [List.length_append, hlen] at this; simp at this; omega
    have hAl : (dgs (max d sc).toNat u.natAbs ++ List.replicate (-sc).toNat 48).length ≤ 50 := by
      rw [List.length_append, hlen, List.length_replicate]; omega
    have hW : wn (dgs (max d sc).toNat u.natAbs ++ List.replicate (-sc).toNat 48) = (u.natAbs : Int) * 10 ^ (-sc).toNat := by rw [wn_zeros, hw]
    have hok := zpow_ok hs1 hn
    rw [hT]
    by_cases hneg : u < 0
    · rw [if_pos hneg]
      have key := rd_10 (w := w) news _ t (dig_app (dgs_dig (max d sc).toNat u.natAbs) (dig_zeros (-sc).toNat)) hA0 hAl (by rw [hW]; exact hok.1) (by rw [hW]; exact hok.2)
      rw [hW, show -(((u.natAbs : Nat) : Int) * 10 ^ (-sc).toNat) = u * 10 ^ (-sc).toNat by rw [← Int.neg_mul]; congr 1; omega, dec_scaled hs] at key
      exact key
    · rw [if_neg hneg]
      have key := rd_00 (w := w) news _ t (dig_app (dgs_dig (max d sc).toNat u.natAbs) (dig_zeros (-sc).toNat)) hA0 hAl (by rw [hW]; exact hok.1) (by rw [hW]; exact hok.2)
      rw [hW, show ((u.natAbs : Nat) : Int) * 10 ^ (-sc).toNat = u * 10 ^ (-sc).toNat by congr 1; omega, dec_scaled hs] at key
      exact key
end Mine
/-! part Lq -/
namespace Mine
def Stop (P : Prop) : Prop := P
theorem Stop.intro {P : Prop} (h : Stop P) : P := h
theorem Stop.out {P : Prop} (h : P) : Stop P := h
end Mine
/-! part Lr -/
namespace Mine
/-- an entry of the ledger picked out; the rest lies elsewhere. -/
inductive Pick (P : Addr) (o : Obj) : List (Addr × Obj) → List (Addr × Obj) → Prop
  | head {r : List (Addr × Obj)} (h : ∀ p ∈ r, p.1 ≠ P) : Pick P o ((P, o) :: r) r
  | tail {q : Addr × Obj} {l r : List (Addr × Obj)} (h : q.1 ≠ P) (k : Pick P o l r) : Pick P o (q :: l) (q :: r)
theorem Pick.off {P : Addr} {o : Obj} {l r : List (Addr × Obj)} (k : Pick P o l r) : ∀ p ∈ r, p.1 ≠ P := by
  induction k with
  | head h => exact h
  | tail h _ ih =>
    intro p hp
    rcases List.mem_cons.mp hp with rfl | hp
    · exact h
    · exact ih p hp
theorem Pick.sub {P : Addr} {o : Obj} {l r : List (Addr × Obj)} (k : Pick P o l r) : ∀ p ∈ (P, o) :: r, p ∈ l := by
  induction k with
  | head h => exact fun p hp => hp
  | tail h _ ih =>
    intro p hp
    rcases List.mem_cons.mp hp with rfl | hp
    · exact .tail _ (ih _ (.head _))
    · rcases List.mem_cons.mp hp with rfl | hp
      · exact .head _
      · exact .tail _ (ih p (.tail _ hp))
theorem take_go {w : World} {news rest : List (Addr × Obj)} {P : Addr} {vs : List Value} {c : Nat} {n : Int} {t1 : Tok} (K : Pick P (listOf vs.toArray c) news rest)
    {p : Program} {loose : List Str} {mean : ExcName → Option Value} {mg mb : Str → Option Value} {dp un : Nat} {gd : Option (List Code)} {cn : Str} {nms : List (Str × NameKind)} {ig ic : Bool} {mor : List (Str × Const)} {a : Addr} {ccd : Value} {cl : List (Str × Addr)} {outer : List Env} {A₀ : Around} {base h₀ : Heap} {L : Addr} {m : Str → Option Value} {s : Shared} {Q E : Value → Shared → Prop}
    (B : Below A₀ base outer h₀) (F : Fr h₀ L s.heap m) (X : (hd.heap_39 w.params).In h₀) (N : News h₀ L s.heap news) (T : Top p loose mean mg mb h₀) (hp : PoolOk vs ∧ 1 ≤ n ∧ n ≤ 10^18) (hd : dp + 2 < recursionLimit) (hu : un + 10 * 2 < cLine) (hr : TakeRet rest P n h₀ L m s Q) :
    wpAny (model PySem.Challenge.rw_og0074_01.row.prog w) (ktrTop dp un gd cn (Scope.mk .function nms ig ic mor) L a ccd cl outer) (call (.ref 141) [.ref P, .int n t1]) Q E s :=
  ask_go (take_claim rest P vs c n t1) B F X (cb_drop N K.sub) T ⟨hp.1, hp.2.1, hp.2.2, K.off⟩ hd hu hr
/-- the law's own lines behind its table -/
noncomputable def lawStmt : Stmt := (PySem.Challenge.pw_og0074_01.main.body.getLast?).getD (.Pass ⟨0, 0, 0, 0⟩)
noncomputable def lawTail : List Stmt := match lawStmt with
  | .FunctionDef _ _ b _ _ _ _ _ _ _ => b.drop 3
  | _ => []
noncomputable def lawScope : Scope := match lawStmt with
  | .FunctionDef _ _ _ _ _ _ sc _ _ _ => sc
  | _ => ⟨.function, [], false, false, []⟩
end Mine
/-! part Ls -/
namespace Mine
theorem figs_go {w : World} {news : List (Addr × Obj)} {S D : Addr} {d sc u : Int} {tu td ts : Tok} {vc vs vp vu vg v1 v2 v3 : Value} {k0 k1 k2 k3 k4 k5 k6 k7 k8 k9 k10 : Tok}
    (hS : (S, instObj 123 D) ∈ news) (hD : (D, dictOf (shapeEs w d sc td ts vc vs vp vu vg v1 v2 v3 k0 k1 k2 k3 k4 k5 k6 k7 k8 k9 k10) 11) ∈ news)
    {p : Program} {loose : List Str} {mean : ExcName → Option Value} {mg mb : Str → Option Value} {dp un : Nat} {gd : Option (List Code)} {cn : Str} {nms : List (Str × NameKind)} {ig ic : Bool} {mor : List (Str × Const)} {a : Addr} {ccd : Value} {cl : List (Str × Addr)} {outer : List Env} {A₀ : Around} {base h₀ : Heap} {L : Addr} {m : Str → Option Value} {s : Shared} {Q E : Value → Shared → Prop}
    (B : Below A₀ base outer h₀) (F : Fr h₀ L s.heap m) (X : (hd.heap_39 w.params).In h₀) (N : News h₀ L s.heap news) (T : Top p loose mean mg mb h₀) (hp : 1 ≤ d ∧ d ≤ 18 ∧ -3 ≤ sc ∧ sc ≤ 24 ∧ u.natAbs < 10 ^ d.toNat) (hd : dp + 2 < recursionLimit) (hu : un + 10 * 2 < cLine)
    (hr : ∀ (ta : Tok) (h' : Heap) (tk' : Nat), Fr h₀ L h' m → News h₀ L h' news → Q (.str (tS d sc u) ta) { s with heap := h', toks := tk' }) :
    wpAny (model PySem.Challenge.rw_og0074_01.row.prog w) (ktrTop dp un gd cn (Scope.mk .function nms ig ic mor) L a ccd cl outer) (call (.ref 28) [.ref S, .int u tu]) Q E s :=
  ask_go (figs_claim news S D d sc u tu td ts vc vs vp vu vg v1 v2 v3 k0 k1 k2 k3 k4 k5 k6 k7 k8 k9 k10) B F X
    (cb_drop N (List.forall_mem_cons.mpr ⟨hS, List.forall_mem_cons.mpr ⟨hD, fun _ hq => hq⟩⟩)) T hp hd hu
    (fun ta h' tk' F' N' => hr ta h' tk' F' (cb_drop N' fun _ hq => .tail _ (.tail _ hq)))
/-- what the law has met: each told text with its units. -/
def MetOk (d sc : Int) (c : List (Str × Int)) : Prop := ∀ q ∈ c, q.1 = tS d sc q.2 ∧ q.2.natAbs < 10 ^ d.toNat
theorem head_body {d sc : Int} {n : Nat} (h1 : 1 ≤ d) : ∃ c r, bodyL d sc n = c :: r ∧ c ≠ 45 := by
  have hl : (dgs (max d sc).toNat n).length = (max d sc).toNat := dgs_len _ _
  have hne : ∀ c r, dgs (max d sc).toNat n = c :: r → c ≠ 45 := by
    intro c r e
    have := dgs_mem (max d sc).toNat n c (by rw [e]; exact .head _)
    omega
  cases hd : dgs (max d sc).toNat n with
  | nil => rw [hd] at hl; simp at hl; omega
  | cons c r =>
    have h45 := hne c r hd
    unfold bodyL
    rw [hd]
    split
    · cases ht : (max d sc).toNat - sc.toNat with
      | zero => exact ⟨46, _, rfl, by decide⟩
      | succ k => exact ⟨c, _, rfl, h45⟩
    · exact ⟨c, r, rfl, h45⟩
theorem body_inj {d sc : Int} {n k : Nat} (h1 : 1 ≤ d) (hn : n < 10 ^ d.toNat) (hk : k < 10 ^ d.toNat) (e : bodyL d sc n = bodyL d sc k) : n = k := by
  have hl : ∀ n, (dgs (max d sc).toNat n).length = (max d sc).toNat := fun n => dgs_len _ _
  have e2 : dgs (max d sc).toNat n = dgs (max d sc).toNat k := by
    unfold bodyL at e
    split at e
    · have hlen : ((dgs (max d sc).toNat n).take ((max d sc).toNat - sc.toNat)).length = ((dgs (max d sc).toNat k).take ((max d sc).toNat - sc.toNat)).length := by
        rw [List.length_take, List.length_take, hl, hl]
      obtain ⟨a, b⟩ := List.append_inj e hlen
      have b' : (dgs (max d sc).toNat n).drop ((max d sc).toNat - sc.toNat) = (dgs (max d sc).toNat k).drop ((max d sc).toNat - sc.toNat) := by
        injection b
      rw [← List.take_append_drop ((max d sc).toNat - sc.toNat) (dgs (max d sc).toNat n), a, b', List.take_append_drop]
    · exact e
  have w1 := body_wn (sc := sc) h1 hn
  have w2 := body_wn (sc := sc) h1 hk
  rw [e2, w2] at w1
  omega
theorem tS_inj {d sc u v : Int} (h1 : 1 ≤ d) (hu : u.natAbs < 10 ^ d.toNat) (hv : v.natAbs < 10 ^ d.toNat) (e : tS d sc u = tS d sc v) : u = v := by
  have e1 : tL d sc u = tL d sc v := congrArg (fun s : Str => s.cps.toList) e
  unfold tL at e1
  obtain ⟨c1, r1, b1, n1⟩ := head_body (sc := sc) (n := u.natAbs) h1
  obtain ⟨c2, r2, b2, n2⟩ := head_body (sc := sc) (n := v.natAbs) h1
  have key : bodyL d sc u.natAbs = bodyL d sc v.natAbs → u.natAbs = v.natAbs := body_inj h1 hu hv
  by_cases hun : u < 0
  · by_cases hvn : v < 0
    · rw [if_pos hun, if_pos hvn] at e1
      have e2 := List.append_cancel_right (List.append_cancel_left e1)
      have := key e2; omega
    · rw [if_pos hun, if_neg hvn, b2] at e1
      exfalso
      have : (45 : Nat) = c2 := by injection e1
      exact n2 this.symm
  · by_cases hvn : v < 0
    · rw [if_neg hun, if_pos hvn, b1] at e1
      exfalso
      have : c1 = (45 : Nat) := by injection e1
      exact n1 this
    · rw [if_neg hun, if_neg hvn] at e1
      have e2 := List.append_cancel_right (List.append_cancel_left e1)
      have := key e2; omega
theorem met_look {d sc u : Int} {c : List (Str × Int)} (h1 : 1 ≤ d) (hc : MetOk d sc c) (hu : u.natAbs < 10 ^ d.toNat) : kdpLook c (tS d sc u) u = u := by
  unfold kdpLook
  cases hf : c.find? fun p => decide (p.1 = tS d sc u) with
  | none => rfl
  | some q =>
    have hm := List.mem_of_find?_eq_some hf
    have hp := List.find?_some hf
    have hq := hc q hm
    have : q.1 = tS d sc u := by simpa using hp
    show q.2 = u
    exact tS_inj h1 hq.2 hu (hq.1.symm.trans this)
theorem met_put {d sc u : Int} {c : List (Str × Int)} (hc : MetOk d sc c) (hu : u.natAbs < 10 ^ d.toNat) : MetOk d sc (kdpPut c (tS d sc u) u) := by
  unfold kdpPut
  split
  · intro q hq
    obtain ⟨p, hp, rfl⟩ := List.mem_map.mp hq
    by_cases h : p.1 = tS d sc u
    · simp only [h, decide_true, if_true]; exact ⟨trivial, hu⟩
    · simp only [h, decide_false, Bool.false_eq_true, if_false]; exact hc p hp
  · intro q hq
    rcases List.mem_append.mp hq with hq | hq
    · exact hc q hq
    · rw [List.mem_singleton] at hq; subst hq; exact ⟨rfl, hu⟩
theorem met_nil {d sc : Int} : MetOk d sc [] := fun _ h => nomatch h
end Mine
/-! part Lt -/
namespace Mine
noncomputable def lawBody : List Stmt := match (lawTail.drop 4).head? with
  | some (.For _ _ b _ _) => b
  | _ => []
structure InLaw (m : Str → Option Value) (P S M : Addr) (d sc : Int) (td ts : Tok) : Prop where
  pool : m (Str.ofString "pool") = some (.ref P)
  digits : m (Str.ofString "digits") = some (.int d td)
  scale : m (Str.ofString "scale") = some (.int sc ts)
  shape : m (Str.ofString "shape") = some (.ref S)
  met : m (Str.ofString "met") = some (.ref M)
abbrev lawMap (P S M : Addr) (d sc : Int) (td ts : Tok) (u : Str → Option Value) : Str → Option Value := fun y =>
  if y = Str.ofString "pool" then some (.ref P) else if y = Str.ofString "digits" then some (.int d td) else if y = Str.ofString "scale" then some (.int sc ts)
  else if y = Str.ofString "shape" then some (.ref S) else if y = Str.ofString "met" then some (.ref M) else u y
theorem InLaw.eq {m : Str → Option Value} {P S M : Addr} {d sc : Int} {td ts : Tok} (h : InLaw m P S M d sc td ts) : m = lawMap P S M d sc td ts m := by
  funext y
  unfold lawMap
  by_cases h1 : y = Str.ofString "pool"
  · subst h1; simp [h.pool]
  by_cases h2 : y = Str.ofString "digits"
  · subst h2; rw [if_neg h1, if_pos rfl]; exact h.digits
  by_cases h3 : y = Str.ofString "scale"
  · subst h3; rw [if_neg h1, if_neg h2, if_pos rfl]; exact h.scale
  by_cases h4 : y = Str.ofString "shape"
  · subst h4; rw [if_neg h1, if_neg h2, if_neg h3, if_pos rfl]; exact h.shape
  by_cases h5 : y = Str.ofString "met"
  · subst h5; rw [if_neg h1, if_neg h2, if_neg h3, if_neg h4, if_pos rfl]; exact h.met
  · rw [if_neg h1, if_neg h2, if_neg h3, if_neg h4, if_neg h5]
end Mine
/-! part L2 -/
namespace Mine
local macro_rules | `(tactic| k_all) => `(tactic| assumption)
local macro_rules | `(tactic| walk_at "call ref") => `(tactic| (k_here; (with_reducible show wpAny _ _ (call (Value.ref 134) _) _ _ _); k_dflt (refine' ask_go (shape_claim _ _ _ _ _ _ _ _ _ _ _) ?B ?F ?X ?N ?T ?p ?d ?u ?_; (case B => k_asm); (case F => k_asm); (case X => k_asm); (case N => k_asm); (case T => k_asm); (case p => trivial); (case d => ktr_room); (case u => ktr_units)); intro S9 D9 vc9 vs9 vp9 vu9 vg9 va9 vb9 vd9 ka9 kb9 kc9 kd9 ke9 kf9 kg9 kh9 ki9 kj9 kk9 h9 tk9 l9 l9b F9 N9; (try k_lt l9); (try k_lt2 l9b); (try dsimp only); (try k_fold)))
local macro_rules | `(tactic| walk_at "call ref") => `(tactic| (k_here; (with_reducible show wpAny _ _ (call (Value.ref 28) _) _ _ _); k_dflt (refine' figs_go ?mS ?mD ?B ?F ?X ?N ?T ?p ?d ?u ?_; (case B => k_asm); (case F => k_asm); (case X => k_asm); (case N => k_asm); (case mS => k_mem); (case mD => k_mem); (case T => k_asm); (case p => (refine ⟨?_, ?_, ?_, ?_, ?_⟩ <;> first | assumption | omega | decide)); (case d => ktr_room); (case u => ktr_units)); intro t9 h9 tk9 F9 N9; (try dsimp only); (try k_fold)))
local macro_rules | `(tactic| walk_at "call ref") => `(tactic| (k_here; (with_reducible show wpAny _ _ (call (Value.ref 155) _) _ _ _); k_dflt (refine' ask_go (due_claim _ _ _ _ _ _ _) ?B ?F ?X ?N ?T ?p ?d ?u ?_; (case B => k_asm); (case F => k_asm); (case X => k_asm); (case N => k_asm); (case T => k_asm); (case p => (refine ⟨?_, ?_, ?_, ?_⟩ <;> first | assumption | omega)); (case d => ktr_room); (case u => ktr_units)); intro t9 h9 tk9 F9 N9; (try dsimp only); (try k_fold)))
local macro_rules | `(tactic| walk_at "call ref") => `(tactic| (k_here; (with_reducible show wpAny _ _ (call (Value.ref 77) _) _ _ _); k_dflt (refine' ask_go (dec_claim _ _ _ _ _) ?B ?F ?X ?N ?T ?p ?d ?u ?_; (case B => k_asm); (case F => k_asm); (case X => k_asm); (case N => k_asm); (case T => k_asm); (case p => (refine ⟨?_, ?_, ?_, ?_⟩ <;> first | assumption | omega)); (case d => ktr_room); (case u => ktr_units)); intro D9 ta9 tb9 h9 tk9 l9 F9 N9; (try k_lt l9); (try dsimp only); (try k_fold)))
local macro_rules | `(tactic| walk_at "call ref") => `(tactic| (k_here; (with_reducible show wpAny _ _ (call (Value.ref 141) _) _ _ _); k_dflt (refine' take_go ?K ?B ?F ?X ?N ?T ?p ?d ?u ?_; (case B => k_asm); (case F => k_asm); (case X => k_asm); (case N => k_asm); (case T => k_asm); (case K => (first | exact Pick.head (by k_all) | exact Pick.tail (by k_ne) (Pick.tail (by k_ne) (Pick.tail (by k_ne) (Pick.head (by k_all)))))); (case p => (refine ⟨by assumption, ?_, ?_⟩ <;> first | assumption | omega)); (case d => ktr_room); (case u => ktr_units)); intro k9 ta9 vs9 c9 h9 tk9 lo9 hi9 po9 F9 N9; (try dsimp only); (try k_fold)))
local macro_rules | `(tactic| walk_at "call ref") => `(tactic| (k_here; (with_reducible show wpAny _ _ (call (Value.ref 91) _) _ _ _); k_dflt (refine' ask_go (rd_told _ _ _ _ _ ?e1 ?e2 ?e3 ?e4 ?e5) ?B ?F ?X ?N ?T trivial ?d ?u ?_; (case B => k_asm); (case F => k_asm); (case X => k_asm); (case N => k_asm); (case T => k_asm); (case d => ktr_room); (case u => ktr_units); (case e1 => omega); (case e2 => omega); (case e3 => omega); (case e4 => omega); (case e5 => first | assumption | omega)); intro D9 ta9 tb9 h9 tk9 l9 F9 N9; (try k_lt l9); (try dsimp only); (try k_fold)))
abbrev TurnRet (w : World) (P S M D : Addr) (d sc : Int) (td ts : Tok) (SD : Obj) (own : List (Addr × Obj)) (cn : Nat) (h₀ : Heap) (L : Addr) (s : Shared) (Q : Flow → Shared → Prop) : Prop :=
  ∀ (vs' : List Value) (c' : Nat) (o' : Obj) (kvs' : List (Str × Value)) (cc' : List (Str × Int)) (h' : Heap) (tk' : Nat) (m' : Str → Option Value) (news' : List (Addr × Obj)), Fr h₀ L h' m' → InLaw m' P S M d sc td ts → News h₀ L h' news' →
    (∀ p ∈ (P, listOf vs'.toArray c') :: (M, o') :: (S, instObj 123 D) :: (D, SD) :: own, p ∈ news') → PoolOk vs' → o'.IsDictOf (PySem.strKind PySem.Challenge.rw_og0074_01.row.prog w) kvs' → PyProof.V.FlatPairs PyData.str kvs' (kdpD cc') → MetOk d sc cc' → cc'.length ≤ cn + 1 →
    Q .next { s with heap := h', toks := tk' }
set_option maxRecDepth 100000 in
set_option maxHeartbeats 3000000 in
theorem law_turn {w : World} : ∀ (p : Program) (loose : List Str) (mean : ExcName → Option Value) (mg mb : Str → Option Value) (base h₀ : Heap) (nm : Str) (L fa P S M D : Addr) (cd : Value) (u : Str → Option Value) (vs : List Value) (c : Nat) (s : Shared) (Q : Flow → Shared → Prop) (E : Value → Shared → Prop)
    (d sc i : Int) (td ts ti : Tok) (vc v1 vp vu vg va vb vd : Value) (ka kb kc kd ke kf kg kh ki kj kk : Tok) (o : Obj) (kvs : List (Str × Value)) (cc : List (Str × Int)) (own : List (Addr × Obj)),
    Below callerA base [] h₀ → Fr h₀ L s.heap (fun y => if y = Str.ofString "turn" then some (.int i ti) else lawMap P S M d sc td ts u y) → (hd.heap_39 w.params).In h₀ →
    News h₀ L s.heap ((P, listOf vs.toArray c) :: (M, o) :: (S, instObj 123 D) :: (D, dictOf (shapeEs w d sc td ts vc v1 vp vu vg va vb vd ka kb kc kd ke kf kg kh ki kj kk) 11) :: own) → Top p loose mean mg mb h₀ → PoolOk vs →
    o.IsDictOf (PySem.strKind PySem.Challenge.rw_og0074_01.row.prog w) kvs → PyProof.V.FlatPairs PyData.str kvs (kdpD cc) → MetOk d sc cc → cc.length ≤ 5 → (M == sysModules) = false →
    (1 ≤ d ∧ d ≤ 18 ∧ -3 ≤ sc ∧ sc ≤ 24) → (@Ne Nat M P ∧ @Ne Nat S P ∧ @Ne Nat D P ∧ @Ne Nat S M ∧ @Ne Nat D M) → (∀ q ∈ own, q.1 ≠ P) → (∀ q ∈ own, q.1 ≠ M) →
    TurnRet w P S M D d sc td ts (dictOf (shapeEs w d sc td ts vc v1 vp vu vg va vb vd ka kb kc kd ke kf kg kh ki kj kk) 11) own cc.length h₀ L s Q →
    wpAny (model PySem.Challenge.rw_og0074_01.row.prog w) (callerA.deeper (envOf nm lawScope L fa cd)) (execs lawBody (envOf nm lawScope L fa cd)) Q E s := by
  k_with_none
  w_top off
  k_fill
  intro p loose mean mg mb base h₀ nm L fa P S M D cd u vs c s Q E d sc i td ts ti vc v1 vp vu vg va vb vd ka kb kc kd ke kf kg kh ki kj kk o kvs cc own B F X N T po hD hF hM hcc hsm hb hne hoP hoM hret
  obtain ⟨hd1, hd2, hs1, hs2⟩ := hb
  obtain ⟨n1, n2, n3, n4, n5⟩ := hne
  have hpow : ((10 ^ d.toNat : Nat) : Int) = (10 : Int) ^ d.toNat := by simp
  have hp0 : 0 < 10 ^ d.toNat := Nat.pow_pos (by decide)
  have hp18 : 10 ^ d.toNat ≤ 10 ^ 18 := Nat.pow_le_pow_right (by decide) (by omega)
  have hpw1 : (1 : Int) ≤ 10 ^ d.toNat := by omega
  have hpw2 : (10 : Int) ^ d.toNat ≤ 10 ^ 18 := by omega
  have e1 : lawBody = lawBody := rfl
  conv at e1 => rhs; whnf
  have e2 : lawScope = lawScope := rfl
  conv at e2 => rhs; whnf
  rw [e1, e2]
  clear e1 e2
  k_steps
  · exfalso; rename ((_ != _) = true) => hq; simp at hq
  · exfalso; rename (kdpLook _ _ _ ≠ _) => hq; exact hq (met_look hd1 hM (by omega))
  · rename Fr _ _ _ _ => F9
    rename News _ _ _ _ => N9
    rename Obj.IsDictOf _ _ _ => hD9
    rename PyProof.V.FlatPairs _ _ _ => hF9
    rename PoolOk _ => po9
    exact hret _ _ _ _ _ _ _ _ _ F9 ⟨rfl, rfl, rfl, rfl, rfl⟩ N9 (fun q hq => .tail _ (.tail _ hq)) po9 hD9 hF9 (met_put hM (by omega)) (kdpPut_len _ _ _)
  · exfalso; rename ((_ != _) = true) => hq; simp at hq
  · exfalso; rename (kdpLook _ _ _ ≠ _) => hq; exact hq (met_look hd1 hM (by omega))
  · rename Fr _ _ _ _ => F9
    rename News _ _ _ _ => N9
    rename Obj.IsDictOf _ _ _ => hD9
    rename PyProof.V.FlatPairs _ _ _ => hF9
    rename PoolOk _ => po9
    exact hret _ _ _ _ _ _ _ _ _ F9 ⟨rfl, rfl, rfl, rfl, rfl⟩ N9 (fun q hq => .tail _ (.tail _ hq)) po9 hD9 hF9 (met_put hM (by omega)) (kdpPut_len _ _ _)
end Mine
/-! part L3 -/
namespace Mine
def LawJ (w : World) (P S M D : Addr) (d sc : Int) (td ts : Tok) (SD : Obj) (i : Nat) (m : Str → Option Value) (nx : List (Addr × Obj)) : Prop :=
  InLaw m P S M d sc td ts ∧ ∃ (vs : List Value) (c : Nat) (o : Obj) (kvs : List (Str × Value)) (cc : List (Str × Int)), nx = [(P, listOf vs.toArray c), (M, o), (S, instObj 123 D), (D, SD)] ∧ PoolOk vs ∧
    o.IsDictOf (PySem.strKind PySem.Challenge.rw_og0074_01.row.prog w) kvs ∧ PyProof.V.FlatPairs PyData.str kvs (kdpD cc) ∧ MetOk d sc cc ∧ cc.length ≤ i
set_option maxHeartbeats 1000000 in
theorem law_loop {w : World} {p : Program} {loose : List Str} {mean : ExcName → Option Value} {mg mb : Str → Option Value} {base h₀ : Heap} {nm : Str} {L fa P S M D r : Addr} {cd : Value} {m₀ : Str → Option Value} {vs : List Value} {c : Nat} {s : Shared} {Q : Flow → Shared → Prop} {E : Value → Shared → Prop}
    {d sc b : Int} {td ts t0 u0 v0 : Tok} {vc v1 vp vu vg va vb vd : Value} {ka kb kc kd ke kf kg kh ki kj kk : Tok} {o : Obj}
    (B : Below callerA base [] h₀) (F : Fr h₀ L s.heap m₀) (hm : InLaw m₀ P S M d sc td ts) (X : (hd.heap_39 w.params).In h₀)
    (N : News h₀ L s.heap [(P, listOf vs.toArray c), (M, o), (S, instObj 123 D), (D, dictOf (shapeEs w d sc td ts vc v1 vp vu vg va vb vd ka kb kc kd ke kf kg kh ki kj kk) 11)]) (T : Top p loose mean mg mb h₀) (po : PoolOk vs)
    (hD : o.IsDictOf (PySem.strKind PySem.Challenge.rw_og0074_01.row.prog w) []) (hF : PyProof.V.FlatPairs PyData.str [] []) (hsm : (M == sysModules) = false)
    (hb : 1 ≤ d ∧ d ≤ 18 ∧ -3 ≤ sc ∧ sc ≤ 24) (hne : @Ne Nat M P ∧ @Ne Nat S P ∧ @Ne Nat D P ∧ @Ne Nat S M ∧ @Ne Nat D M)
    (hr : IsRange s.heap r 0 b 1 t0 u0 v0) (hb1 : 0 ≤ b) (hb2 : b ≤ 5)
    (done : ∀ h' tk' m', Fr h₀ L h' m' → Q .next { s with heap := h', toks := tk' }) :
    wpAny (model PySem.Challenge.rw_og0074_01.row.prog w) (callerA.deeper (envOf nm lawScope L fa cd)) (pyIter (.ref r))
      (fun it s₂ => LoopAtV PySem.Challenge.rw_og0074_01.row.prog w (callerA.deeper (envOf nm lawScope L fa cd)) h₀ (envOf nm lawScope L fa cd) (Str.ofString "turn") lawBody Q E it s₂) E s := by
  refine range_inv (env := envOf nm lawScope L fa cd) (LawJ w P S M D d sc td ts (dictOf (shapeEs w d sc td ts vc v1 vp vu vg va vb vd ka kb kc kd ke kf kg kh ki kj kk) 11)) rfl hr (small_one (by omega) (by omega) (by omega) (by omega)) (rangeSize_nat _ _) F N ?_ ?_ ?_
  · exact ⟨hm, vs, c, o, [], [], rfl, po, hD, hF, met_nil, Nat.le_refl _⟩
  · rintro i t m₁ nx h tk own hi hoff ⟨hm₁, vs₁, c₁, o₁, kvs₁, cc₁, rfl, po₁, hD₁, hF₁, hM₁, hl₁⟩ F₁ N₁
    rw [hm₁.eq] at F₁
    simp only [List.cons_append, List.nil_append] at N₁
    refine law_turn p loose mean mg mb base h₀ nm L fa P S M D cd m₁ vs₁ c₁ { s with heap := h, toks := tk } _ E d sc (0 + (i : Int)) td ts t vc v1 vp vu vg va vb vd ka kb kc kd ke kf kg kh ki kj kk o₁ kvs₁ cc₁ own B F₁ X N₁ T po₁ hD₁ hF₁ hM₁ (by omega) hsm hb hne
      (hoff.ne (.head _)) (hoff.ne (.tail _ (.head _))) ?_
    intro vs' c' o' kvs' cc' h' tk' m' news' F' hm' N' hsub po' hD' hF' hM' hl'
    refine InvEndN.intro (nx := [(P, listOf vs'.toArray c'), (M, o'), (S, instObj 123 D), (D, dictOf (shapeEs w d sc td ts vc v1 vp vu vg va vb vd ka kb kc kd ke kf kg kh ki kj kk) 11)]) F' N' ?_ rfl ?_ ?_
    · exact ⟨hm', vs', c', o', kvs', cc', rfl, po', hD', hF', hM', by omega⟩
    · intro q hq
      refine hsub q ?_
      rcases List.mem_cons.mp hq with rfl | hq
      · exact .head _
      rcases List.mem_cons.mp hq with rfl | hq
      · exact .tail _ (.head _)
      rcases List.mem_cons.mp hq with rfl | hq
      · exact .tail _ (.tail _ (.head _))
      · rw [List.mem_singleton] at hq; subst hq; exact .tail _ (.tail _ (.tail _ (.head _)))
    · intro q hq
      exact hsub q (.tail _ (.tail _ (.tail _ (.tail _ hq))))
  · rintro m₁ nx h tk _ F₁ _
    exact done h tk m₁ F₁
end Mine
/-! part L1 -/
namespace Mine
local macro_rules | `(tactic| walk_at "call ref") => `(tactic| (k_here; (with_reducible show wpAny _ _ (call (Value.ref 134) _) _ _ _); k_dflt (refine' ask_go (shape_claim _ _ _ _ _ _ _ _ _ _ _) ?B ?F ?X ?N ?T ?p ?d ?u ?_; (case B => k_asm); (case F => k_asm); (case X => k_asm); (case N => k_asm); (case T => k_asm); (case p => trivial); (case d => ktr_room); (case u => ktr_units)); intro S9 D9 vc9 vs9 vp9 vu9 vg9 va9 vb9 vd9 ka9 kb9 kc9 kd9 ke9 kf9 kg9 kh9 ki9 kj9 kk9 h9 tk9 l9 l9b F9 N9; (try k_lt l9); (try k_lt2 l9b); (try dsimp only); (try k_fold)))
local macro_rules | `(tactic| walk_at "call ref") => `(tactic| (k_here; (with_reducible show wpAny _ _ (call (Value.ref 28) _) _ _ _); k_dflt (refine' ask_go (figs_claim _ _ _ _ _ _ _ _ _ _ _ _ _ _ _ _ _ _ _ _ _ _ _ _ _ _ _ _ _ _) ?B ?F ?X ?N ?T ?p ?d ?u ?_; (case B => k_asm); (case F => k_asm); (case X => k_asm); (case N => k_asm); (case T => k_asm); (case p => (refine ⟨?_, ?_, ?_, ?_, ?_⟩ <;> first | assumption | omega | decide)); (case d => ktr_room); (case u => ktr_units)); intro t9 h9 tk9 F9 N9; (try dsimp only); (try k_fold)))
local macro_rules | `(tactic| walk_at "call ref") => `(tactic| (k_here; (with_reducible show wpAny _ _ (call (Value.ref 155) _) _ _ _); k_dflt (refine' ask_go (due_claim _ _ _ _ _ _ _) ?B ?F ?X ?N ?T ?p ?d ?u ?_; (case B => k_asm); (case F => k_asm); (case X => k_asm); (case N => k_asm); (case T => k_asm); (case p => (refine ⟨?_, ?_, ?_, ?_⟩ <;> first | assumption | omega)); (case d => ktr_room); (case u => ktr_units)); intro t9 h9 tk9 F9 N9; (try dsimp only); (try k_fold)))
local macro_rules | `(tactic| walk_at "call ref") => `(tactic| (k_here; (with_reducible show wpAny _ _ (call (Value.ref 77) _) _ _ _); k_dflt (refine' ask_go (dec_claim _ _ _ _ _) ?B ?F ?X ?N ?T ?p ?d ?u ?_; (case B => k_asm); (case F => k_asm); (case X => k_asm); (case N => k_asm); (case T => k_asm); (case p => (refine ⟨?_, ?_, ?_, ?_⟩ <;> first | assumption | omega)); (case d => ktr_room); (case u => ktr_units)); intro D9 ta9 tb9 h9 tk9 l9 F9 N9; (try k_lt l9); (try dsimp only); (try k_fold)))
local macro_rules | `(tactic| walk_at "call ref") => `(tactic| (k_here; (with_reducible show wpAny _ _ (call (Value.ref 141) _) _ _ _); k_dflt (refine' take_go ?K ?B ?F ?X ?N ?T ?p ?d ?u ?_; (case B => k_asm); (case F => k_asm); (case X => k_asm); (case N => k_asm); (case T => k_asm); (case K => (first | exact Pick.head (by k_all) | exact Pick.tail (by k_ne) (Pick.tail (by k_ne) (Pick.tail (by k_ne) (Pick.head (by k_all)))))); (case p => (refine ⟨by assumption, ?_, ?_⟩ <;> first | assumption | omega)); (case d => ktr_room); (case u => ktr_units)); intro k9 ta9 vs9 c9 h9 tk9 lo9 hi9 po9 F9 N9; (try dsimp only); (try k_fold)))
local macro_rules | `(tactic| walk_at "exec For Name Call cons nil") => `(tactic| (k_here; (rename Fr _ _ _ _ => lF'); (with_unfolding_all refine' For_invVF lF' ?k1 ?k2 ?_; (case k1 => exact rfl); (case k2 => exact rfl); k_whole)))
local macro_rules | `(tactic| walk_at "pyIter ref") => `(tactic| (refine Stop.intro ?_))
set_option maxRecDepth 100000 in
set_option maxHeartbeats 3000000 in
theorem law_tail {w : World} : ∀ (p : Program) (loose : List Str) (mean : ExcName → Option Value) (mg mb : Str → Option Value) (base h₀ : Heap) (nm : Str) (L fa P : Addr) (cd : Value) (u : Str → Option Value) (vs : List Value) (c : Nat) (s : Shared) (Q : Flow → Shared → Prop) (E : Value → Shared → Prop),
    Below callerA base [] h₀ → Fr h₀ L s.heap (fun y => if y = Str.ofString "pool" then some (.ref P) else u y) → (hd.heap_39 w.params).In h₀ → News h₀ L s.heap [(P, listOf vs.toArray c)] → Top p loose mean mg mb h₀ → PoolOk vs → PassesOwn (model PySem.Challenge.rw_og0074_01.row.prog w) (callerA.deeper (envOf nm lawScope L fa cd)) (envOf nm lawScope L fa cd) E →
    (∀ h' tk' m', Fr h₀ L h' m' → Q (.ret (.bool true)) { s with heap := h', toks := tk' }) →
    wpAny (model PySem.Challenge.rw_og0074_01.row.prog w) (callerA.deeper (envOf nm lawScope L fa cd)) (execs lawTail (envOf nm lawScope L fa cd)) Q E s := by
  k_with_none
  w_top off
  k_fill
  intro p loose mean mg mb base h₀ nm L fa P cd u vs c s Q E B F X N T po hE hret
  have e1 : lawTail = lawTail := rfl
  conv at e1 => rhs; whnf
  have e2 : lawScope = lawScope := rfl
  conv at e2 => rhs; whnf
  rw [e2] at hE
  rw [e1, e2]
  clear e1 e2
  (try k_fold)
  k_steps
  refine Stop.out ?_
  rename Fr _ _ _ _ => F9
  rename News _ _ _ _ => N9
  rename IsRange _ _ _ _ _ _ _ _ => R9
  rename PoolOk _ => po9
  rename ((_ == sysModules) = false) => sm9
  rename (Obj.IsDictOf (PySem.strKind _ _) _ _) => hD9
  rename (PyProof.V.FlatPairs PyData.str _ _) => hF9
  with_unfolding_all refine' law_loop B F9 ⟨rfl, rfl, rfl, rfl, rfl⟩ X N9 T po9 hD9 hF9 sm9 ⟨?a1, ?a2, ?a3, ?a4⟩ ⟨?n1, ?n2, ?n3, ?n4, ?n5⟩ R9 ?b1 ?b2 ?dn
  case a1 => omega
  case a2 => omega
  case a3 => omega
  case a4 => omega
  case n1 => omega
  case n2 => omega
  case n3 => omega
  case n4 => omega
  case n5 => omega
  case b1 => omega
  case b2 => omega
  case dn =>
    intro h7 tk7 m7 F7
    clear F9 N9
    (try dsimp only)
    k_steps
    exact hret _ _ _ (by assumption)
end Mine
/-! part L0 -/
namespace Mine
local macro_rules | `(tactic| walk_at "call ref") => `(tactic| (k_here; (with_reducible show wpAny _ _ (call (Value.ref 134) _) _ _ _); k_dflt (refine' ask_go (shape_claim _ _ _ _ _ _ _ _ _ _ _) ?B ?F ?X ?N ?T ?p ?d ?u ?_; (case B => k_asm); (case F => k_asm); (case X => k_asm); (case N => k_asm); (case T => k_asm); (case p => trivial); (case d => ktr_room); (case u => ktr_units)); intro S9 D9 vc9 vs9 vp9 vu9 vg9 va9 vb9 vd9 ka9 kb9 kc9 kd9 ke9 kf9 kg9 kh9 ki9 kj9 kk9 h9 tk9 l9 l9b F9 N9; (try k_lt l9); (try k_lt2 l9b); (try dsimp only); (try k_fold)))
/-- a shape that is asked once: the ledger behind the call knows it no more. -/
theorem figs_drop {w : World} {news : List (Addr × Obj)} {S D : Addr} {d sc u : Int} {tu td ts : Tok} {vc vs vp vu vg v1 v2 v3 : Value} {k0 k1 k2 k3 k4 k5 k6 k7 k8 k9 k10 : Tok}
    {p : Program} {loose : List Str} {mean : ExcName → Option Value} {mg mb : Str → Option Value} {dp un : Nat} {gd : Option (List Code)} {cn : Str} {nms : List (Str × NameKind)} {ig ic : Bool} {mor : List (Str × Const)} {a : Addr} {ccd : Value} {cl : List (Str × Addr)} {outer : List Env} {A₀ : Around} {base h₀ : Heap} {L : Addr} {m : Str → Option Value} {s : Shared} {Q E : Value → Shared → Prop}
    (B : Below A₀ base outer h₀) (F : Fr h₀ L s.heap m) (X : (hd.heap_39 w.params).In h₀) (N : News h₀ L s.heap ((S, instObj 123 D) :: (D, dictOf (shapeEs w d sc td ts vc vs vp vu vg v1 v2 v3 k0 k1 k2 k3 k4 k5 k6 k7 k8 k9 k10) 11) :: news)) (T : Top p loose mean mg mb h₀) (hp : 1 ≤ d ∧ d ≤ 18 ∧ -3 ≤ sc ∧ sc ≤ 24 ∧ u.natAbs < 10 ^ d.toNat) (hd : dp + 2 < recursionLimit) (hu : un + 10 * 2 < cLine)
    (hr : ∀ (ta : Tok) (h' : Heap) (tk' : Nat), Fr h₀ L h' m → News h₀ L h' news → Q (.str (tS d sc u) ta) { s with heap := h', toks := tk' }) :
    wpAny (model PySem.Challenge.rw_og0074_01.row.prog w) (ktrTop dp un gd cn (Scope.mk .function nms ig ic mor) L a ccd cl outer) (call (.ref 28) [.ref S, .int u tu]) Q E s :=
  ask_go (figs_claim news S D d sc u tu td ts vc vs vp vu vg v1 v2 v3 k0 k1 k2 k3 k4 k5 k6 k7 k8 k9 k10) B F X N T hp hd hu
    (fun ta h' tk' F' N' => hr ta h' tk' F' (cb_drop N' fun _ hq => .tail _ (.tail _ hq)))
local macro_rules | `(tactic| walk_at "call ref") => `(tactic| (k_here; (with_reducible show wpAny _ _ (call (Value.ref 28) _) _ _ _); k_dflt (refine' figs_drop ?B ?F ?X ?N ?T ?p ?d ?u ?_; (case B => k_asm); (case F => k_asm); (case X => k_asm); (case N => k_asm); (case T => k_asm); (case p => (refine ⟨?_, ?_, ?_, ?_, ?_⟩ <;> first | assumption | omega | decide)); (case d => ktr_room); (case u => ktr_units)); intro t9 h9 tk9 F9 N9; (try dsimp only); (try k_fold)))
local macro_rules | `(tactic| walk_at "execs cons") => `(tactic| ((with_reducible show wpAny _ _ (execs (Stmt.Assign [Expr.Name (Str.ofString "digits") _] _ _ :: _) _) _ _ _); refine Stop.intro ?_))
theorem fr_pool {h₀ h : Heap} {L : Addr} {m : Str → Option Value} {v : Value} (F : Fr h₀ L h m) (e : m (Str.ofString "pool") = some v) : Fr h₀ L h (fun y => if y = Str.ofString "pool" then some v else m y) := by
  have e2 : (fun y => if y = Str.ofString "pool" then some v else m y) = m := by
    funext y
    by_cases hy : y = Str.ofString "pool"
    · subst hy; rw [if_pos rfl]; exact e.symm
    · rw [if_neg hy]
  rw [e2]; exact F
theorem pool_ok {ys : List Value} {ns : List Int} (h : IntsAre ys ((ns.take 24).map fun k' => (if k' < 0 then -k' else k').fmod (10 ^ Int.toNat 80))) : PoolOk ys := by
  refine ⟨_, h, ?_, ?_⟩
  · have := h.length
    rw [List.length_map, List.length_take] at this
    omega
  · intro x hx
    obtain ⟨k, _, rfl⟩ := List.mem_map.mp hx
    exact Int.fmod_nonneg_of_pos _ (by decide)
theorem q1 : (tS 5 2 1250 == Str.ofString "012.50") = true := by decide +kernel
theorem q2 : (tS 2 2 7 == Str.ofString ".07") = true := by decide +kernel
theorem q3 : (tS 3 0 (-4) == Str.ofString "-004") = true := by decide +kernel
theorem q4 : (tS 2 (-2) 31 == Str.ofString "3100") = true := by decide +kernel
theorem q5 : (tS 2 4 (-31) == Str.ofString "-.0031") = true := by decide +kernel
theorem q6 : (tS 1 0 0 == Str.ofString "0") = true := by decide +kernel
set_option maxRecDepth 100000 in
set_option maxHeartbeats 3000000 in
theorem t0 : PySem.Challenge.rw_og0074_01.Holds := Mine.hd (by
  k_with_none
  k_go0
  (all_goals try k_fold)
  have q1' := q1
  have q2' := q2
  have q3' := q3
  have q4' := q4
  have q5' := q5
  have q6' := q6
  k_steps
  refine Stop.out ?_
  rename Fr _ _ _ _ => F9
  rename News _ _ _ _ => N9
  rename IntsAre _ (List.map _ _) => hI9
  with_unfolding_all refine' law_tail _ _ _ _ _ _ _ _ _ _ _ _ _ _ _ _ _ _ ?B (fr_pool F9 rfl) ?X (cb_drop N9 ?sub) ?T (pool_ok hI9) ?hE ?ret
  case B => assumption
  case X => assumption
  case T => assumption
  case sub => intro q hq; rw [List.mem_singleton] at hq; subst hq; k_mem
  case hE => passes_own
  case ret =>
    intro h7 tk7 m7 F7
    clear F9 N9
    (try dsimp only)
    k_steps
  )
end Mine
theorem PySem.Challenge.cw_og0074_01_holds : PySem.Challenge.rw_og0074_01.Holds := by
  exact Mine.t0
