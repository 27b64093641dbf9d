import PyProof.Rows.All
import Wide.All
import OpenK.AllK
import Wide.FinOn
import HandS.ForMost
import HandS.TupAny
import HandS.NoneIn
import HandS.IsInst
import HandS.Property
import HandS.ClsMeth
import PyProof.CollectIter
import PyProof.WalksMore
import KE.KOpsOwn
import HandS.Text
import PySem.Challenge.RW_framejoins_k47_whole_pieces_of_clips
import HandS.Defaults
set_option Elab.async false
set_option linter.all false
set_option maxRecDepth 100000
set_option maxHeartbeats 8000000
/-! part Mt -/
namespace Cl
/-! ### pieces, and the program's functions over them -/
inductive Piece where
  | part (nm : Bool) (s e : Int) (g : List (Int × Int))
  | sil (n : Int)
  | smp (xs : List Int) (g : List (Int × Int))
  | rep (k : Int) (ps : List Piece)
mutual
def plen : Piece → Int
  | .part _ s e _ => e - s
  | .sil n => n
  | .smp xs _ => (xs.length : Int)
  | .rep k ps => k * total ps
def total : List Piece → Int
  | [] => 0
  | p :: ps => plen p + total ps
end
mutual
def pcount : Piece → Int
  | .rep _ ps => 1 + pcounts ps
  | _ => 1 + 0
def pcounts : List Piece → Int
  | [] => 0
  | p :: ps => pcount p + pcounts ps
end
def mrg : Piece → Piece → Option Piece
  | .sil a, .sil b => some (.sil (a + b))
  | .part n s e g, .part n' s' e' g' => if n = n' ∧ e = s' ∧ g = g' then some (.part n s e' g) else none
  | _, _ => none
def glue (x : Piece) : List Piece → List Piece
  | [] => [x]
  | y :: r => match mrg x y with
    | some z => z :: r
    | none => x :: y :: r
def both : List Piece → List Piece → List Piece
  | [], ys => ys
  | [x], ys => glue x ys
  | x :: x' :: r, ys => x :: both (x' :: r) ys
def repd (ps : List Piece) (k : Int) : List Piece :=
  if k = 0 ∨ ps.isEmpty = true then [] else if k = 1 then ps else match ps with
  | [.sil n] => [.sil (n * k)]
  | [.rep j qs] => [.rep (j * k) qs]
  | ps => [.rep k ps]
def sl (xs : List Int) (a b : Int) : List Int := (xs.drop a.toNat).take (b.toNat - a.toNat)
mutual
def cutP : Piece → Int → Int → List Piece
  | .part n s _ g, a, b => [.part n (s + a) (s + b) g]
  | .sil _, a, b => [.sil (b - a)]
  | .smp xs g, a, b => [.smp (sl xs a b) g]
  | .rep _ ps, a, b =>
    if a / total ps = b / total ps then cutG ps [] 0 (a - a / total ps * total ps) (b - a / total ps * total ps)
    else if a > a / total ps * total ps then
      both (both (cutG ps [] 0 (a - a / total ps * total ps) (total ps)) (repd ps (b / total ps - (a / total ps + 1)))) (cutG ps [] 0 0 (b - b / total ps * total ps))
    else both (both [] (repd ps (b / total ps - a / total ps))) (cutG ps [] 0 0 (b - b / total ps * total ps))
def cutG : List Piece → List Piece → Int → Int → Int → List Piece
  | [], f, _, _, _ => f
  | p :: ps, f, pl, a, b => cutG ps (if max (a - pl) 0 < min (b - pl) (plen p) then both f (cutP p (max (a - pl) 0) (min (b - pl) (plen p))) else f) (pl + plen p) a b
end
mutual
def gainP (g : Int × Int) : Piece → Piece
  | .part n s e gs => .part n s e (gs ++ [g])
  | .sil n => .sil n
  | .smp xs gs => .smp xs (gs ++ [g])
  | .rep k ps => .rep k (gainL g ps)
def gainL (g : Int × Int) : List Piece → List Piece
  | [] => []
  | p :: ps => gainP g p :: gainL g ps
end
/-! ### the law's -/
def lboth (xs ys : List Piece) : List Piece := ys.foldl (fun f y => both f [y]) xs
mutual
def strP : Piece → List Piece → Int → Int → List Piece
  | .part n s _ g, f, a, b => lboth f [.part n (s + a) (s + b) g]
  | .sil _, f, a, b => lboth f [.sil (b - a)]
  | .smp xs g, f, a, b => lboth f [.smp (sl xs a b) g]
  | .rep k ps, f, a, b =>
    if (a + k * total ps / k - 1) / (k * total ps / k) > b / (k * total ps / k) then lboth f (strG ps [] (a - b / (k * total ps / k) * (k * total ps / k)) (b - b / (k * total ps / k) * (k * total ps / k)))
    else lboth (lboth (lboth f (if a < (a + k * total ps / k - 1) / (k * total ps / k) * (k * total ps / k) then strG ps [] (a - ((a + k * total ps / k - 1) / (k * total ps / k) - 1) * (k * total ps / k)) (k * total ps / k) else []))
      (repd ps (b / (k * total ps / k) - (a + k * total ps / k - 1) / (k * total ps / k)))) (strG ps [] 0 (b - b / (k * total ps / k) * (k * total ps / k)))
def strG : List Piece → List Piece → Int → Int → List Piece
  | [], f, _, _ => f
  | p :: ps, f, a, b => strG ps (if min (max a 0) (plen p) < min (max b 0) (plen p) then strP p f (min (max a 0) (plen p)) (min (max b 0) (plen p)) else f) (a - plen p) (b - plen p)
end
/-! ### what holds of pieces -/
def Nrm : List Piece → Prop
  | x :: y :: r => mrg x y = none ∧ Nrm (y :: r)
  | _ => True
mutual
def okP : Piece → Prop
  | .part _ s e _ => s < e
  | .sil n => 0 < n
  | .smp xs _ => xs ≠ []
  | .rep k ps => 2 ≤ k ∧ ps ≠ [] ∧ okL ps ∧ Nrm ps
def okL : List Piece → Prop
  | [] => True
  | p :: ps => okP p ∧ okL ps
end
/-! ### both -/
theorem both_nil (xs : List Piece) : both xs [] = xs := by
  induction xs with
  | nil => rfl
  | cons x r ih =>
    cases r with
    | nil => rfl
    | cons x' r => rw [both, ih]
theorem both_snoc : ∀ (i : List Piece) (x : Piece) (ys : List Piece), both (i ++ [x]) ys = i ++ glue x ys
  | [], _, _ => rfl
  | [a], x, ys => by show both (a :: x :: []) ys = _; rfl
  | a :: b :: r, x, ys => by
    show a :: both (b :: r ++ [x]) ys = _
    have e := both_snoc (b :: r) x ys
    rw [e]
    rfl
theorem snoc_of : ∀ (xs : List Piece), xs = [] ∨ ∃ i x, xs = i ++ [x]
  | [] => .inl rfl
  | x :: r => by
    rcases snoc_of r with h | ⟨i, y, h⟩
    · subst h
      exact .inr ⟨[], x, rfl⟩
    · subst h
      exact .inr ⟨x :: i, y, rfl⟩
theorem mrg_left {x y z : Piece} (h : mrg x y = some z) (w : Piece) : mrg z w = (mrg y w).bind fun u => mrg x u := by
  cases x <;> cases y <;> simp only [mrg, reduceCtorEq] at h
  · split at h
    · rename_i c
      obtain ⟨c1, c2, c3⟩ := c
      subst c1 c2 c3
      cases h
      cases w <;> simp only [mrg, Option.bind_none]
      split
      · rename_i c
        obtain ⟨c1, c2, c3⟩ := c
        subst c1 c2 c3
        simp [mrg]
      · rfl
    · cases h
  · cases h
    cases w <;> simp [mrg, Int.add_assoc]
theorem mrg_right {y w u : Piece} (h : mrg y w = some u) (x : Piece) : mrg x u = (mrg x y).bind fun z => mrg z w := by
  cases y <;> cases w <;> simp only [mrg, reduceCtorEq] at h
  · split at h
    · rename_i c
      obtain ⟨c1, c2, c3⟩ := c
      subst c1 c2 c3
      cases h
      cases x <;> simp only [mrg, Option.bind_none]
      split
      · rename_i c
        obtain ⟨c1, c2, c3⟩ := c
        subst c1 c2 c3
        simp [mrg]
      · rfl
    · cases h
  · cases h
    cases x <;> simp [mrg, Int.add_assoc]
theorem mrg_two {x y z w u : Piece} (h : mrg x y = some z) (h2 : mrg y w = some u) : ∃ v, mrg z w = some v := by
  cases x <;> cases y <;> simp only [mrg, reduceCtorEq] at h
  · split at h
    · rename_i c
      obtain ⟨c1, c2, c3⟩ := c
      subst c1 c2 c3
      cases h
      cases w <;> simp only [mrg, reduceCtorEq] at h2
      split at h2
      · rename_i c
        obtain ⟨c1, c2, c3⟩ := c
        subst c1 c2 c3
        simp only [mrg, and_self, if_true]
        exact ⟨_, rfl⟩
      · cases h2
    · cases h
  · cases h
    cases w <;> simp only [mrg, reduceCtorEq] at h2
    exact ⟨_, rfl⟩
theorem glue_cons_some {x y z : Piece} {r : List Piece} (h : mrg x y = some z) : glue x (y :: r) = z :: r := by simp [glue, h]
theorem glue_cons_none {x y : Piece} {r : List Piece} (h : mrg x y = none) : glue x (y :: r) = x :: y :: r := by simp [glue, h]
theorem both_cons {x : Piece} {r ys : List Piece} (h : r ≠ []) : both (x :: r) ys = x :: both r ys := by
  cases r with
  | nil => exact absurd rfl h
  | cons y r => rfl
theorem glue_ne (x : Piece) (ys : List Piece) : glue x ys ≠ [] := by
  cases ys with
  | nil => show [x] ≠ []; simp
  | cons y r =>
    show (match mrg x y with | some z => z :: r | none => x :: y :: r) ≠ []
    cases mrg x y <;> simp
theorem both_ne {xs ys : List Piece} (h : xs ≠ []) : both xs ys ≠ [] := by
  cases xs with
  | nil => exact absurd rfl h
  | cons x r =>
    cases r with
    | nil => exact glue_ne x ys
    | cons y r => exact fun h => nomatch h
theorem glue_both (x : Piece) : ∀ (b c : List Piece), both (glue x b) c = glue x (both b c)
  | [], c => rfl
  | [y], c => by
    show both (glue x [y]) c = glue x (glue y c)
    cases h : mrg x y with
    | none =>
      rw [glue_cons_none h]
      show x :: glue y c = _
      cases c with
      | nil => show [x, y] = glue x [y]; rw [glue_cons_none h]
      | cons w r =>
        cases h2 : mrg y w with
        | none => rw [glue_cons_none h2, glue_cons_none h]
        | some u =>
          rw [glue_cons_some h2]
          have e := mrg_right h2 x
          rw [h] at e
          rw [glue_cons_none e]
    | some z =>
      rw [glue_cons_some h]
      show glue z c = _
      cases c with
      | nil => show [z] = glue x [y]; rw [glue_cons_some h]
      | cons w r =>
        have e := mrg_left h w
        cases h2 : mrg y w with
        | none =>
          rw [h2] at e
          rw [glue_cons_none h2, glue_cons_none e, glue_cons_some h]
        | some u =>
          rw [glue_cons_some h2]
          rw [h2] at e
          have e2 := mrg_right h2 x
          rw [h] at e2
          have e3 : mrg x u = mrg z w := e2
          cases h3 : mrg z w with
          | none =>
            rw [h3] at e3
            rw [glue_cons_none h3, glue_cons_none e3]
            obtain ⟨v, hv⟩ := mrg_two h h2
            rw [h3] at hv
            cases hv
          | some v =>
            rw [h3] at e3
            rw [glue_cons_some h3, glue_cons_some e3]
  | y :: y' :: r, c => by
    rw [both_cons (by simp)]
    cases h : mrg x y with
    | none =>
      rw [glue_cons_none h, glue_cons_none h]
      rfl
    | some z =>
      rw [glue_cons_some h, glue_cons_some h]
      rfl
theorem both_assoc : ∀ (a b c : List Piece), both (both a b) c = both a (both b c)
  | [], _, _ => rfl
  | [x], b, c => glue_both x b c
  | x :: x' :: r, b, c => by
    have e := both_assoc (x' :: r) b c
    show both (x :: both (x' :: r) b) c = x :: both (x' :: r) (both b c)
    rw [both_cons (both_ne (by simp)), e]
theorem nrm_tail {x : Piece} {r : List Piece} (h : Nrm (x :: r)) : Nrm r := by
  cases r with
  | nil => trivial
  | cons y r => exact h.2
theorem glue_nrm (x : Piece) : ∀ (ys : List Piece), Nrm ys → Nrm (glue x ys)
  | [], _ => trivial
  | y :: r, h => by
    cases q : mrg x y with
    | none =>
      rw [glue_cons_none q]
      exact ⟨q, h⟩
    | some z =>
      rw [glue_cons_some q]
      cases r with
      | nil => trivial
      | cons w r =>
        refine ⟨?_, h.2⟩
        rw [mrg_left q, h.1]
        rfl
theorem glue_head {v x y z : Piece} (h : mrg v x = none) (q : mrg x y = some z) : mrg v z = none := by
  rw [mrg_right q, h]
  rfl
theorem both_nrm : ∀ (xs ys : List Piece), Nrm xs → Nrm ys → Nrm (both xs ys)
  | [], _, _, h => h
  | [x], ys, _, h => glue_nrm x ys h
  | [x, x'], ys, h, h' => by
    show Nrm (x :: glue x' ys)
    cases ys with
    | nil => exact h
    | cons y r =>
      have g := glue_nrm x' (y :: r) h'
      cases q : mrg x' y with
      | none =>
        rw [glue_cons_none q] at g ⊢
        exact ⟨h.1, g⟩
      | some z =>
        rw [glue_cons_some q] at g ⊢
        exact ⟨glue_head h.1 q, g⟩
  | x :: x' :: x2 :: r, ys, h, h' => ⟨h.1, both_nrm (x' :: x2 :: r) ys h.2 h'⟩
theorem lboth_eq : ∀ (ys xs : List Piece), Nrm ys → lboth xs ys = both xs ys
  | [], xs, _ => (both_nil xs).symm
  | y :: r, xs, h => by
    show lboth (both xs [y]) r = _
    rw [lboth_eq r _ (nrm_tail h), both_assoc]
    congr 1
    show glue y r = y :: r
    cases r with
    | nil => rfl
    | cons w r => exact glue_cons_none h.1
/-! ### lengths -/
theorem total_append (xs ys : List Piece) : total (xs ++ ys) = total xs + total ys := by
  induction xs with
  | nil => simp [total]
  | cons x r ih => simp [total, ih, Int.add_assoc]
theorem mrg_len {x y z : Piece} (h : mrg x y = some z) : plen z = plen x + plen y := by
  cases x <;> cases y <;> simp only [mrg, reduceCtorEq] at h
  · split at h
    · rename_i c
      obtain ⟨c1, c2, c3⟩ := c
      cases h
      simp only [plen]
      omega
    · cases h
  · cases h
    simp only [plen]
theorem glue_total (x : Piece) (ys : List Piece) : total (glue x ys) = plen x + total ys := by
  cases ys with
  | nil => rfl
  | cons y r =>
    cases q : mrg x y with
    | none => rw [glue_cons_none q]; rfl
    | some z =>
      rw [glue_cons_some q]
      simp only [total, mrg_len q, Int.add_assoc]
theorem both_total : ∀ (xs ys : List Piece), total (both xs ys) = total xs + total ys
  | [], ys => by simp [both, total]
  | [x], ys => by show total (glue x ys) = _; rw [glue_total]; simp [total]
  | x :: x' :: r, ys => by
    show plen x + total (both (x' :: r) ys) = _
    rw [both_total (x' :: r) ys]
    simp only [total, Int.add_assoc]
theorem mrg_ok {x y z : Piece} (h : mrg x y = some z) (hx : okP x) (hy : okP y) : okP z := by
  cases x <;> cases y <;> simp only [mrg, reduceCtorEq] at h
  · split at h
    · rename_i c
      obtain ⟨c1, c2, c3⟩ := c
      cases h
      simp only [okP] at *
      omega
    · cases h
  · cases h
    simp only [okP] at *
    omega
theorem glue_ok {x : Piece} {ys : List Piece} (hx : okP x) (h : okL ys) : okL (glue x ys) := by
  cases ys with
  | nil => exact ⟨hx, trivial⟩
  | cons y r =>
    cases q : mrg x y with
    | none => rw [glue_cons_none q]; exact ⟨hx, h⟩
    | some z => rw [glue_cons_some q]; exact ⟨mrg_ok q hx h.1, h.2⟩
theorem both_ok : ∀ (xs ys : List Piece), okL xs → okL ys → okL (both xs ys)
  | [], _, _, h => h
  | [_], _, h, h' => glue_ok h.1 h'
  | x :: x' :: r, ys, h, h' => ⟨h.1, both_ok (x' :: r) ys h.2 h'⟩
mutual
theorem plen_pos : ∀ (p : Piece), okP p → 0 < plen p
  | .part _ s e _, h => by simp only [okP, plen] at *; omega
  | .sil n, h => by simp only [okP, plen] at *; omega
  | .smp xs _, h => by
    simp only [okP, plen] at *
    have := List.length_pos_iff.mpr h
    omega
  | .rep k ps, h => by
    simp only [okP, plen] at *
    have h1 := total_ge ps h.2.2.1
    have h2 := List.length_pos_iff.mpr h.2.1
    exact Int.mul_pos (by omega) (by omega)
theorem total_ge : ∀ (ps : List Piece), okL ps → (ps.length : Int) ≤ total ps
  | [], _ => by simp [total]
  | p :: ps, h => by
    have h1 := plen_pos p h.1
    have h2 := total_ge ps h.2
    simp only [total, List.length_cons]
    omega
end
theorem total_nn {ps : List Piece} (h : okL ps) : 0 ≤ total ps := by
  have := total_ge ps h
  omega
theorem total_pos {ps : List Piece} (h : okL ps) (hn : ps ≠ []) : 0 < total ps := by
  have := total_ge ps h
  have := List.length_pos_iff.mpr hn
  omega
end Cl

/-! part Mu -/
namespace Cl
/-! ### repeats -/
theorem repd_zero (ps : List Piece) : repd ps 0 = [] := by simp [repd]
theorem repd_nil (k : Int) : repd [] k = [] := by simp [repd]
theorem repd_one {ps : List Piece} : repd ps 1 = ps := by
  cases ps with
  | nil => simp [repd]
  | cons p r => simp [repd]
theorem repd_cases {P : List Piece → List Piece → Int → Prop} (h0 : ∀ ps k, k = 0 ∨ ps = [] → P [] ps k) (h1 : ∀ ps, ps ≠ [] → P ps ps 1) (h2 : ∀ n k, k ≠ 0 → k ≠ 1 → P [.sil (n * k)] [.sil n] k)
    (h3 : ∀ j qs k, k ≠ 0 → k ≠ 1 → P [.rep (j * k) qs] [.rep j qs] k) (h4 : ∀ ps k, k ≠ 0 → k ≠ 1 → ps ≠ [] → (∀ n, ps ≠ [.sil n]) → (∀ j qs, ps ≠ [.rep j qs]) → P [.rep k ps] ps k) (ps : List Piece) (k : Int) : P (repd ps k) ps k := by
  unfold repd
  by_cases c : k = 0 ∨ ps.isEmpty = true
  · rw [if_pos c]
    exact h0 ps k (c.imp id List.isEmpty_iff.mp)
  · rw [if_neg c]
    have ck : k ≠ 0 := fun h => c (.inl h)
    have cp : ps ≠ [] := fun h => c (.inr (by rw [h]; rfl))
    by_cases c1 : k = 1
    · rw [if_pos c1]
      subst c1
      exact h1 ps cp
    · rw [if_neg c1]
      split
      · exact h2 _ k ck c1
      · exact h3 _ _ k ck c1
      · rename_i n1 n2
        exact h4 ps k ck c1 cp n1 n2
theorem repd_total (ps : List Piece) (k : Int) : total (repd ps k) = k * total ps := by
  refine repd_cases (P := fun r ps k => total r = k * total ps) ?_ ?_ ?_ ?_ ?_ ps k
  · rintro ps k (h | h) <;> subst h <;> simp [total]
  · intro ps _; simp
  · intro n k _ _; simp [total, plen, Int.mul_comm]
  · intro j qs k _ _; simp only [total, plen, Int.add_zero]; rw [← Int.mul_assoc, Int.mul_comm k j]
  · intro ps k _ _ _ _ _; simp [total, plen]
theorem two_mul_le {j k : Int} (hj : 2 ≤ j) (hk : 2 ≤ k) : 2 ≤ j * k := by
  have h : 2 * 2 ≤ j * k := Int.mul_le_mul hj hk (by omega) (by omega)
  omega
theorem repd_ok (ps : List Piece) (k : Int) : 0 ≤ k → okL ps → Nrm ps → okL (repd ps k) ∧ Nrm (repd ps k) := by
  refine repd_cases (P := fun r ps k => 0 ≤ k → okL ps → Nrm ps → okL r ∧ Nrm r) ?_ ?_ ?_ ?_ ?_ ps k
  · intros; exact ⟨trivial, trivial⟩
  · intro ps _ _ h h'; exact ⟨h, h'⟩
  · intro n k h0 h1 h2 h h'
    refine ⟨⟨?_, trivial⟩, trivial⟩
    have := h.1
    simp only [okP] at *
    exact Int.mul_pos this (by omega)
  · intro j qs k h0 h1 h2 h h'
    refine ⟨⟨?_, trivial⟩, trivial⟩
    have := h.1
    simp only [okP] at *
    exact ⟨two_mul_le this.1 (by omega), this.2⟩
  · intro ps k h0 h1 h2 _ _ h3 h h'
    exact ⟨⟨⟨by omega, h2, h, h'⟩, trivial⟩, trivial⟩
/-! ### cuts -/
/-- the same without the gathered pieces -/
def cutR : List Piece → Int → Int → List Piece
  | [], _, _ => []
  | p :: ps, a, b => both (if max a 0 < min b (plen p) then cutP p (max a 0) (min b (plen p)) else []) (cutR ps (a - plen p) (b - plen p))
theorem cutG_eq : ∀ (ps f : List Piece) (pl a b : Int), cutG ps f pl a b = both f (cutR ps (a - pl) (b - pl))
  | [], f, _, _, _ => (both_nil f).symm
  | p :: ps, f, pl, a, b => by
    rw [cutG, cutG_eq ps, cutR]
    have e1 : a - (pl + plen p) = a - pl - plen p := by omega
    have e2 : b - (pl + plen p) = b - pl - plen p := by omega
    rw [e1, e2]
    split
    · rw [both_assoc]
    · rfl
def cutL (ps : List Piece) (a b : Int) : List Piece := cutG ps [] 0 a b
theorem cutL_eq (ps : List Piece) (a b : Int) : cutL ps a b = cutR ps a b := by
  unfold cutL
  rw [cutG_eq]
  show cutR ps (a - 0) (b - 0) = _
  rw [Int.sub_zero, Int.sub_zero]
/-- the copies between -/
structure Cop (z k a b : Int) : Prop where
  z0 : 0 < z
  a0 : 0 ≤ a
  ab : a < b
  bk : b ≤ k * z
theorem Cop.le {z k a b : Int} (c : Cop z k a b) : a / z ≤ b / z := Int.ediv_le_ediv c.z0 (by have := c.ab; omega)
theorem dm (a z : Int) : a / z * z + a % z = a := by rw [Int.mul_comm]; exact Int.mul_ediv_add_emod a z
theorem Cop.ra {z k a b : Int} (c : Cop z k a b) : 0 ≤ a - a / z * z ∧ a - a / z * z < z := by
  have h1 := dm a z
  have h2 := Int.emod_nonneg a (by have := c.z0; omega : z ≠ 0)
  have h3 := Int.emod_lt_of_pos a c.z0
  omega
theorem Cop.rb {z k a b : Int} (c : Cop z k a b) : 0 ≤ b - b / z * z ∧ b - b / z * z < z := by
  have h1 := dm b z
  have h2 := Int.emod_nonneg b (by have := c.z0; omega : z ≠ 0)
  have h3 := Int.emod_lt_of_pos b c.z0
  omega
theorem cop_of {k : Int} {ps : List Piece} {a b : Int} (h : okP (.rep k ps)) (h0 : 0 ≤ a) (h1 : a < b) (h2 : b ≤ plen (.rep k ps)) : Cop (total ps) k a b := by
  simp only [okP, plen] at h h2
  exact ⟨total_pos h.2.2.1 h.2.1, h0, h1, h2⟩
theorem sl_len {xs : List Int} {a b : Int} (h0 : 0 ≤ a) (h1 : a < b) (h2 : b ≤ (xs.length : Int)) : ((sl xs a b).length : Int) = b - a := by
  unfold sl
  rw [List.length_take, List.length_drop]
  omega
mutual
theorem cutP_ok : ∀ (p : Piece) (a b : Int), okP p → 0 ≤ a → a < b → b ≤ plen p → okL (cutP p a b) ∧ Nrm (cutP p a b)
  | .part _ s e _, a, b, h, h0, h1, h2 => by
    simp only [okP, plen, cutP, okL, Nrm] at *
    exact ⟨⟨by omega, trivial⟩, trivial⟩
  | .sil n, a, b, h, h0, h1, h2 => by
    simp only [okP, plen, cutP, okL, Nrm] at *
    exact ⟨⟨by omega, trivial⟩, trivial⟩
  | .smp xs g, a, b, h, h0, h1, h2 => by
    simp only [okP, plen, cutP, okL, Nrm] at *
    refine ⟨⟨?_, trivial⟩, trivial⟩
    intro e
    have := sl_len h0 h1 h2
    rw [e] at this
    simp at this
    omega
  | .rep k ps, a, b, h, h0, h1, h2 => by
    have c := cop_of h h0 h1 h2
    have hle := c.le
    have h' := h
    simp only [okP] at h'
    have ih := fun a b => cutR_ok ps a b h'.2.2.1
    simp only [cutP, cutG_eq, both]
    split
    · exact ih _ _
    · have hr := fun j (hj : 0 ≤ j) => repd_ok ps j hj h'.2.2.1 h'.2.2.2
      split
      · have r := hr (b / total ps - (a / total ps + 1)) (by omega)
        exact ⟨both_ok _ _ (both_ok _ _ (ih _ _).1 r.1) (ih _ _).1, both_nrm _ _ (both_nrm _ _ (ih _ _).2 r.2) (ih _ _).2⟩
      · have r := hr (b / total ps - a / total ps) (by omega)
        exact ⟨both_ok _ _ r.1 (ih _ _).1, both_nrm _ _ r.2 (ih _ _).2⟩
theorem cutR_ok : ∀ (ps : List Piece) (a b : Int), okL ps → okL (cutR ps a b) ∧ Nrm (cutR ps a b)
  | [], _, _, _ => ⟨trivial, trivial⟩
  | p :: ps, a, b, h => by
    have ih := cutR_ok ps (a - plen p) (b - plen p) h.2
    simp only [cutR]
    split
    · rename_i c
      have r := cutP_ok p (max a 0) (min b (plen p)) h.1 (by omega) c (by omega)
      exact ⟨both_ok _ _ r.1 ih.1, both_nrm _ _ r.2 ih.2⟩
    · exact ih
end
theorem cutL_ok {ps : List Piece} (h : okL ps) (a b : Int) : okL (cutL ps a b) ∧ Nrm (cutL ps a b) := by
  rw [cutL_eq]
  exact cutR_ok ps a b h
def clp (t x : Int) : Int := min (max x 0) t
mutual
theorem cutP_total : ∀ (p : Piece) (a b : Int), okP p → 0 ≤ a → a < b → b ≤ plen p → total (cutP p a b) = b - a
  | .part _ s e _, a, b, h, h0, h1, h2 => by
    simp only [cutP, total, plen]
    omega
  | .sil n, a, b, h, h0, h1, h2 => by
    simp only [cutP, total, plen]
    omega
  | .smp xs g, a, b, h, h0, h1, h2 => by
    simp only [plen] at h2
    simp only [cutP, total, plen]
    rw [sl_len h0 h1 h2]
    omega
  | .rep k ps, a, b, h, h0, h1, h2 => by
    have c := cop_of h h0 h1 h2
    have hle := c.le
    have ra := c.ra
    have rb := c.rb
    have h' := h
    simp only [okP] at h'
    have ih := fun a b => cutR_total ps a b h'.2.2.1
    have z0 := c.z0
    simp only [cutP, cutG_eq, both]
    split
    · rename_i e
      rw [ih _ _ (by omega)]
      rw [← e] at rb
      unfold clp
      omega
    · rename_i ne
      split
      · rw [both_total, both_total, repd_total, ih _ _ (by omega), ih _ _ (by omega), Int.sub_mul, Int.add_mul]
        unfold clp
        omega
      · rw [both_total, repd_total, ih _ _ (by omega), Int.sub_mul]
        unfold clp
        omega
theorem cutR_total : ∀ (ps : List Piece) (a b : Int), okL ps → a ≤ b → total (cutR ps a b) = clp (total ps) b - clp (total ps) a
  | [], a, b, _, h => by simp only [cutR, total, clp]; omega
  | p :: ps, a, b, h, hab => by
    have ih := cutR_total ps (a - plen p) (b - plen p) h.2 (by omega)
    have hp := plen_pos p h.1
    have ht := total_nn h.2
    simp only [cutR, total]
    rw [both_total, ih]
    split
    · rename_i c
      rw [cutP_total p _ _ h.1 (by omega) c (by omega)]
      unfold clp
      omega
    · simp only [total]
      unfold clp
      omega
end
theorem cutL_total {ps : List Piece} {a b : Int} (h : okL ps) (h0 : 0 ≤ a) (h1 : a ≤ b) (h2 : b ≤ total ps) : total (cutL ps a b) = b - a := by
  rw [cutL_eq, cutR_total ps a b h h1]
  unfold clp
  omega
/-! ### the law's cut is the program's -/
theorem nrm_one (p : Piece) : Nrm [p] := trivial
mutual
theorem strP_eq : ∀ (p : Piece) (f : List Piece) (a b : Int), okP p → 0 ≤ a → a < b → b ≤ plen p → strP p f a b = both f (cutP p a b)
  | .part _ s e _, f, a, b, h, h0, h1, h2 => by
    simp only [strP, cutP]
    exact lboth_eq _ _ (nrm_one _)
  | .sil n, f, a, b, h, h0, h1, h2 => by
    simp only [strP, cutP]
    exact lboth_eq _ _ (nrm_one _)
  | .smp xs g, f, a, b, h, h0, h1, h2 => by
    simp only [strP, cutP]
    exact lboth_eq _ _ (nrm_one _)
  | .rep k ps, f, a, b, h, h0, h1, h2 => by
    have c := cop_of h h0 h1 h2
    have hle := c.le
    have ra := c.ra
    have rb := c.rb
    have h' := h
    simp only [okP] at h'
    have z0 := c.z0
    have ih : ∀ a b, a ≤ b → strG ps [] a b = cutR ps a b := fun a b hab => strG_eq ps [] a b h'.2.2.1 hab
    have nr := fun a b => (cutR_ok ps a b h'.2.2.1).2
    have hk : k * total ps / k = total ps := Int.mul_ediv_cancel_left _ (by omega)
    simp only [strP, hk, cutP, cutG_eq, Int.sub_zero, both]
    generalize hz : total ps = z at *
    generalize hq : a / z = q at *
    generalize hr : b / z = r at *
    have hlo : (a + z - 1) / z = if a - q * z = 0 then q else q + 1 := by
      have e : a + z - 1 = (a - q * z + z - 1) + q * z := by omega
      rw [e, Int.add_mul_ediv_right _ _ (by omega)]
      split
      · rename_i e0
        rw [e0, Int.zero_add, Int.ediv_eq_zero_of_lt (by omega) (by omega)]
        omega
      · have e1 : a - q * z + z - 1 = (a - q * z - 1) + 1 * z := by omega
        rw [e1, Int.add_mul_ediv_right _ _ (by omega), Int.ediv_eq_zero_of_lt (by omega) (by omega)]
        omega
    rw [hlo]
    by_cases e0 : a - q * z = 0
    · rw [if_pos e0]
      have n1 : ¬ q > r := by omega
      rw [if_neg n1]
      have n2 : ¬ a < q * z := by omega
      have n3 : ¬ a > q * z := by omega
      rw [if_neg n2, if_neg n3]
      have n4 : lboth f ([] : List Piece) = f := rfl
      rw [n4, ih _ _ (by omega)]
      have rr := repd_ok ps (r - q) (by omega) h'.2.2.1 h'.2.2.2
      rw [lboth_eq _ _ rr.2, lboth_eq _ _ (nr _ _), both_assoc]
      split
      · rename_i e
        rw [← e, Int.sub_self, repd_zero, e0]
        rfl
      · rfl
    · rw [if_neg e0]
      have n3 : a > q * z := by omega
      by_cases e : q = r
      · rw [if_pos (by omega), if_pos e, ih _ _ (by omega), lboth_eq _ _ (nr _ _), e]
      · rw [if_neg (by omega), if_neg e, if_pos n3]
        have n5 : a < (q + 1) * z := by rw [Int.add_mul]; omega
        rw [if_pos n5]
        have e1 : q + 1 - 1 = q := by omega
        rw [e1, ih _ _ (by omega), ih _ _ (by omega)]
        have rr := repd_ok ps (r - (q + 1)) (by omega) h'.2.2.1 h'.2.2.2
        rw [lboth_eq _ _ (nr _ _), lboth_eq _ _ rr.2, lboth_eq _ _ (nr _ _), both_assoc, both_assoc, both_assoc]
theorem strG_eq : ∀ (ps f : List Piece) (a b : Int), okL ps → a ≤ b → strG ps f a b = both f (cutR ps a b)
  | [], f, _, _, _, _ => (both_nil f).symm
  | p :: ps, f, a, b, h, hab => by
    have hp := plen_pos p h.1
    rw [strG, strG_eq ps _ _ _ h.2 (by omega), cutR, ← both_assoc]
    by_cases c : max a 0 < min b (plen p)
    · have c' : min (max a 0) (plen p) < min (max b 0) (plen p) := by omega
      have e1 : min (max a 0) (plen p) = max a 0 := by omega
      have e2 : min (max b 0) (plen p) = min b (plen p) := by omega
      rw [if_pos c, if_pos c', e1, e2, strP_eq p f _ _ h.1 (by omega) c (by omega)]
    · have c' : ¬ min (max a 0) (plen p) < min (max b 0) (plen p) := by omega
      rw [if_neg c, if_neg c', both_nil]
end
theorem str_eq {ps : List Piece} {a b : Int} (h : okL ps) (hab : a ≤ b) : strG ps [] a b = cutL ps a b := by
  rw [cutL_eq, strG_eq ps [] a b h hab]
  rfl
/-! ### gains -/
theorem app_inj {α : Type} {a b : List α} {g : α} : a ++ [g] = b ++ [g] ↔ a = b := ⟨fun h => List.append_cancel_right h, fun h => by rw [h]⟩
theorem gain_mrg (g : Int × Int) (x y : Piece) : mrg (gainP g x) (gainP g y) = (mrg x y).map (gainP g) := by
  cases x <;> cases y <;> simp only [gainP, mrg, Option.map_none, Option.map_some]
  simp only [app_inj]
  split <;> rfl
theorem gainL_nrm (g : Int × Int) : ∀ ps, Nrm ps → Nrm (gainL g ps)
  | [], _ => trivial
  | [_], _ => trivial
  | x :: y :: r, h => by
    refine ⟨?_, gainL_nrm g (y :: r) h.2⟩
    rw [gain_mrg, h.1]
    rfl
theorem gainL_ne {g : Int × Int} {ps : List Piece} (h : ps ≠ []) : gainL g ps ≠ [] := by
  cases ps with
  | nil => exact absurd rfl h
  | cons p r => simp [gainL]
mutual
theorem gainP_len (g : Int × Int) : ∀ p, plen (gainP g p) = plen p
  | .part .. => rfl
  | .sil _ => rfl
  | .smp .. => rfl
  | .rep k ps => by simp only [gainP, plen, gainL_total g ps]
theorem gainL_total (g : Int × Int) : ∀ ps, total (gainL g ps) = total ps
  | [] => rfl
  | p :: ps => by simp only [gainL, total, gainP_len g p, gainL_total g ps]
end
mutual
theorem gainP_ok (g : Int × Int) : ∀ p, okP p → okP (gainP g p)
  | .part .., h => h
  | .sil _, h => h
  | .smp .., h => h
  | .rep k ps, h => by
    simp only [gainP, okP] at *
    exact ⟨h.1, gainL_ne h.2.1, gainL_ok g ps h.2.2.1, gainL_nrm g ps h.2.2.2⟩
theorem gainL_ok (g : Int × Int) : ∀ ps, okL ps → okL (gainL g ps)
  | [], _ => trivial
  | p :: ps, h => ⟨gainP_ok g p h.1, gainL_ok g ps h.2⟩
end
end Cl

/-! part Mv -/
namespace Cl
/-! ### how many pieces: nodes by the number of repeats around them -/
mutual
def MP : Piece → (Nat → Nat) → Nat
  | .rep _ ps, w => w 0 + ML ps (fun u => w (u + 1))
  | .part _ _ _ _, w => w 0
  | .sil _, w => w 0
  | .smp _ _, w => w 0
def ML : List Piece → (Nat → Nat) → Nat
  | [], _ => 0
  | p :: ps, w => MP p w + ML ps w
end
mutual
theorem MP_le : ∀ (p : Piece) (w w' : Nat → Nat), (∀ u, w u ≤ w' u) → MP p w ≤ MP p w'
  | .rep _ ps, w, w', h => by
    have := ML_le ps (fun u => w (u + 1)) (fun u => w' (u + 1)) fun u => h (u + 1)
    have := h 0
    simp only [MP]
    omega
  | .part .., _, _, h => h 0
  | .sil _, _, _, h => h 0
  | .smp .., _, _, h => h 0
theorem ML_le : ∀ (ps : List Piece) (w w' : Nat → Nat), (∀ u, w u ≤ w' u) → ML ps w ≤ ML ps w'
  | [], _, _, _ => Nat.le_refl _
  | p :: ps, w, w', h => Nat.add_le_add (MP_le p w w' h) (ML_le ps w w' h)
end
mutual
theorem MP_add : ∀ (p : Piece) (w w' : Nat → Nat), MP p (fun u => w u + w' u) = MP p w + MP p w'
  | .rep _ ps, w, w' => by
    have := ML_add ps (fun u => w (u + 1)) (fun u => w' (u + 1))
    simp only [MP]
    omega
  | .part .., _, _ => rfl
  | .sil _, _, _ => rfl
  | .smp .., _, _ => rfl
theorem ML_add : ∀ (ps : List Piece) (w w' : Nat → Nat), ML ps (fun u => w u + w' u) = ML ps w + ML ps w'
  | [], _, _ => rfl
  | p :: ps, w, w' => by
    simp only [ML, MP_add p w w', ML_add ps w w']
    omega
end
theorem mrg_M {x y z : Piece} (h : mrg x y = some z) (w : Nat → Nat) : MP z w = w 0 ∧ MP x w = w 0 ∧ MP y w = w 0 := by
  cases x <;> cases y <;> simp only [mrg, reduceCtorEq] at h
  · split at h
    · cases h
      exact ⟨rfl, rfl, rfl⟩
    · cases h
  · cases h
    exact ⟨rfl, rfl, rfl⟩
theorem glue_M (x : Piece) (ys : List Piece) (w : Nat → Nat) : ML (glue x ys) w ≤ MP x w + ML ys w := by
  cases ys with
  | nil => exact Nat.le_refl _
  | cons y r =>
    cases q : mrg x y with
    | none => rw [glue_cons_none q]; exact Nat.le_refl _
    | some z =>
      rw [glue_cons_some q]
      have := mrg_M q w
      simp only [ML]
      omega
theorem both_M : ∀ (xs ys : List Piece) (w : Nat → Nat), ML (both xs ys) w ≤ ML xs w + ML ys w
  | [], _, _ => by simp [both, ML]
  | [x], ys, w => by
    have := glue_M x ys w
    show ML (glue x ys) w ≤ _
    simp only [ML]
    omega
  | x :: x' :: r, ys, w => by
    have := both_M (x' :: r) ys w
    show MP x w + ML (both (x' :: r) ys) w ≤ _
    simp only [ML] at *
    omega
def Mon (w : Nat → Nat) : Prop := ∀ u, w u ≤ w (u + 1)
theorem repd_M {w : Nat → Nat} (m : Mon w) (ps : List Piece) (k : Int) : ML (repd ps k) w ≤ w 0 + ML ps (fun u => w (u + 1)) := by
  have m' : ∀ ps, ML ps w ≤ ML ps (fun u => w (u + 1)) := fun ps => ML_le ps _ _ m
  refine repd_cases (P := fun r ps _ => ML r w ≤ w 0 + ML ps (fun u => w (u + 1))) ?_ ?_ ?_ ?_ ?_ ps k
  · intro ps k _; simp [ML]
  · intro ps _; have := m' ps; omega
  · intro n k _ _; simp [ML, MP]
  · intro j qs k _ _
    have := ML_le qs (fun u => w (u + 1)) (fun u => w (u + 1 + 1)) fun u => m (u + 1)
    simp only [ML, MP] at *
    omega
  · intro ps k _ _ _ _ _; simp [ML, MP]
def ew (w : Nat → Nat) : Nat → Nat
  | 0 => w 0
  | u + 1 => ew w u + w (u + 1)
def qw (w : Nat → Nat) : Nat → Nat
  | 0 => w 0
  | u + 1 => ew w u + ew w u + w (u + 1)
theorem ew_ge (w : Nat → Nat) (u : Nat) : w u ≤ ew w u := by cases u <;> simp [ew]
theorem ew_mon (w : Nat → Nat) : Mon (ew w) := fun u => by simp [ew]
theorem qw_mon {w : Nat → Nat} (m : Mon w) : Mon (qw w) := fun u => by
  cases u with
  | zero => simp only [qw, ew]; omega
  | succ u =>
    have := m (u + 1)
    have := ew_mon w u
    simp only [qw]
    omega
theorem cutR_none : ∀ (ps : List Piece) (a b : Int), okL ps → b ≤ 0 → cutR ps a b = []
  | [], _, _, _, _ => rfl
  | p :: ps, a, b, h, hb => by
    have hp := plen_pos p h.1
    rw [cutR, cutR_none ps _ _ h.2 (by omega), if_neg (by omega)]
    rfl
/-- a stretch to the end | from the beginning -/
def side (t a b : Int) : Prop := t ≤ b ∨ a ≤ 0
mutual
theorem cutP_side : ∀ (p : Piece) (a b : Int) (w : Nat → Nat), Mon w → okP p → 0 ≤ a → a < b → b ≤ plen p → side (plen p) a b → ML (cutP p a b) w ≤ MP p (ew w)
  | .part .., a, b, w, m, h, h0, h1, h2, hs => by simp [cutP, ML, MP, ew]
  | .sil _, a, b, w, m, h, h0, h1, h2, hs => by simp [cutP, ML, MP, ew]
  | .smp .., a, b, w, m, h, h0, h1, h2, hs => by simp [cutP, ML, MP, ew]
  | .rep k ps, a, b, w, m, h, h0, h1, h2, hs => by
    have c := cop_of h h0 h1 h2
    have hle := c.le
    have ra := c.ra
    have rb := c.rb
    have z0 := c.z0
    have h' := h
    simp only [okP] at h'
    have ih := fun a b hs => cutR_side ps a b w m h'.2.2.1 hs
    have hr := repd_M m ps
    have hw : MP (.rep k ps) (ew w) = w 0 + (ML ps (ew w) + ML ps fun u => w (u + 1)) := by
      show ew w 0 + ML ps (fun u => ew w (u + 1)) = _
      have := ML_add ps (ew w) (fun u => w (u + 1))
      simp only [ew] at *
      omega
    simp only [plen] at hs h2
    simp only [cutP, cutG_eq, both, Int.sub_zero]
    rcases hs with hs | hs
    · have hb : b = k * total ps := by omega
      have eb : b / total ps = k := by rw [hb, Int.mul_ediv_cancel _ (by omega)]
      have ne : ¬ a / total ps = b / total ps := fun e => by
        rw [eb] at e
        rw [e] at ra
        omega
      rw [if_neg ne]
      have tl : cutR ps 0 (b - b / total ps * total ps) = [] := cutR_none ps _ _ h'.2.2.1 (by rw [eb, hb]; omega)
      rw [tl, both_nil]
      split
      · have x1 := both_M (cutR ps (a - a / total ps * total ps) (total ps)) (repd ps (b / total ps - (a / total ps + 1))) w
        have x2 := ih (a - a / total ps * total ps) (total ps) (.inl (Int.le_refl _))
        have x3 := hr (b / total ps - (a / total ps + 1))
        omega
      · rw [both_nil]
        have x3 := hr (b / total ps - a / total ps)
        omega
    · have ea : a = 0 := by omega
      subst ea
      rw [Int.zero_ediv, Int.zero_mul]
      split
      · have x1 := ih (0 - 0) (b - 0) (.inr (by omega))
        omega
      · rw [if_neg (by omega)]
        have x1 := both_M (repd ps (b / total ps - 0)) (cutR ps 0 (b - b / total ps * total ps)) w
        have x2 := ih 0 (b - b / total ps * total ps) (.inr (by omega))
        have x3 := hr (b / total ps - 0)
        omega
theorem cutR_side : ∀ (ps : List Piece) (a b : Int) (w : Nat → Nat), Mon w → okL ps → side (total ps) a b → ML (cutR ps a b) w ≤ ML ps (ew w)
  | [], _, _, _, _, _, _ => Nat.le_refl _
  | p :: ps, a, b, w, m, h, hs => by
    have hp := plen_pos p h.1
    have ht := total_nn h.2
    simp only [total, side] at hs
    have ih := cutR_side ps (a - plen p) (b - plen p) w m h.2 (by unfold side; omega)
    simp only [cutR, ML]
    refine Nat.le_trans (both_M _ _ w) (Nat.add_le_add ?_ ih)
    split
    · rename_i c
      exact cutP_side p _ _ w m h.1 (by omega) c (by omega) (by unfold side; omega)
    · exact Nat.zero_le _
end
mutual
theorem cutP_M : ∀ (p : Piece) (a b : Int) (w : Nat → Nat), Mon w → okP p → 0 ≤ a → a < b → b ≤ plen p → ML (cutP p a b) w ≤ MP p (qw w)
  | .part .., a, b, w, m, h, h0, h1, h2 => by simp [cutP, ML, MP, qw]
  | .sil _, a, b, w, m, h, h0, h1, h2 => by simp [cutP, ML, MP, qw]
  | .smp .., a, b, w, m, h, h0, h1, h2 => by simp [cutP, ML, MP, qw]
  | .rep k ps, a, b, w, m, h, h0, h1, h2 => by
    have c := cop_of h h0 h1 h2
    have ra := c.ra
    have rb := c.rb
    have z0 := c.z0
    have h' := h
    simp only [okP] at h'
    have hr := repd_M m ps
    have hw : MP (.rep k ps) (qw w) = w 0 + (ML ps (ew w) + ML ps (ew w) + ML ps fun u => w (u + 1)) := by
      show qw w 0 + ML ps (fun u => qw w (u + 1)) = _
      have e1 := ML_add ps (ew w) (ew w)
      have e2 := ML_add ps (fun u => ew w u + ew w u) (fun u => w (u + 1))
      simp only [qw] at *
      omega
    simp only [cutP, cutG_eq, both, Int.sub_zero]
    have hsd := fun a b hs => cutR_side ps a b w m h'.2.2.1 hs
    split
    · have x1 := cutR_M ps (a - a / total ps * total ps) (b - a / total ps * total ps) w m h'.2.2.1
      have x2 := ML_le ps (qw w) (fun u => qw w (u + 1)) (qw_mon m)
      have e1 : MP (.rep k ps) (qw w) = qw w 0 + ML ps (fun u => qw w (u + 1)) := rfl
      omega
    · have x2 := hsd (a - a / total ps * total ps) (total ps) (.inl (Int.le_refl _))
      have x4 := hsd 0 (b - b / total ps * total ps) (.inr (by omega))
      split
      · have x1 := both_M (cutR ps (a - a / total ps * total ps) (total ps)) (repd ps (b / total ps - (a / total ps + 1))) w
        have x3 := hr (b / total ps - (a / total ps + 1))
        have x5 := both_M (both (cutR ps (a - a / total ps * total ps) (total ps)) (repd ps (b / total ps - (a / total ps + 1)))) (cutR ps 0 (b - b / total ps * total ps)) w
        omega
      · have x3 := hr (b / total ps - a / total ps)
        have x5 := both_M (repd ps (b / total ps - a / total ps)) (cutR ps 0 (b - b / total ps * total ps)) w
        omega
theorem cutR_M : ∀ (ps : List Piece) (a b : Int) (w : Nat → Nat), Mon w → okL ps → ML (cutR ps a b) w ≤ ML ps (qw w)
  | [], _, _, _, _, _ => Nat.le_refl _
  | p :: ps, a, b, w, m, h => by
    have ih := cutR_M ps (a - plen p) (b - plen p) w m h.2
    simp only [cutR, ML]
    refine Nat.le_trans (both_M _ _ w) (Nat.add_le_add ?_ ih)
    split
    · rename_i c
      exact cutP_M p _ _ w m h.1 (by omega) c (by omega)
    · exact Nat.zero_le _
end
def qn : Nat → Nat → Nat
  | 0 => fun _ => 1
  | j + 1 => qw (qn j)
theorem qn_mon : ∀ j, Mon (qn j)
  | 0 => fun _ => Nat.le_refl _
  | j + 1 => qw_mon (qn_mon j)
theorem qn_zero : ∀ j, qn j 0 = 1
  | 0 => rfl
  | j + 1 => by show qw (qn j) 0 = 1; simp only [qw]; exact qn_zero j
theorem qw_step (w : Nat → Nat) (u : Nat) : qw w (u + 1) = qw w u + w u + w (u + 1) := by
  cases u with
  | zero => simp only [qw, ew]
  | succ u => simp only [qw, ew]; omega
theorem ML_up (ps : List Piece) (j : Nat) : ML ps (fun u => qn (j + 1) (u + 1)) = ML ps (qn (j + 1)) + ML ps (qn j) + ML ps (fun u => qn j (u + 1)) := by
  have e : (fun u => qn (j + 1) (u + 1)) = fun u => qn (j + 1) u + qn j u + qn j (u + 1) := funext fun u => qw_step (qn j) u
  rw [e, ← ML_add, ← ML_add]
def Tt (B : Nat → Nat) : Nat → Nat
  | 0 => B 0
  | j + 1 => B (j + 1) + B j + Tt B j
def Bt : Nat → Nat → Nat
  | 0, _ => 1
  | d + 1, j => max (2 * Bt d j) (max (Bt d (j + 1)) (1 + Tt (Bt d) j))
theorem up_le {ps : List Piece} {B : Nat → Nat} (h : ∀ j, ML ps (qn j) ≤ B j) : ∀ j, ML ps (fun u => qn j (u + 1)) ≤ Tt B j
  | 0 => h 0
  | j + 1 => by
    have h1 := h (j + 1)
    have h2 := h j
    have h3 := up_le h j
    rw [ML_up]
    simp only [Tt]
    omega
mutual
theorem pcount_M : ∀ p : Piece, pcount p = (MP p (fun _ => 1) : Nat)
  | .rep _ ps => by
    have := pcounts_M ps
    simp only [pcount, MP]
    omega
  | .part .. => rfl
  | .sil _ => rfl
  | .smp .. => rfl
theorem pcounts_M : ∀ ps : List Piece, pcounts ps = (ML ps (fun _ => 1) : Nat)
  | [] => rfl
  | p :: ps => by
    have := pcount_M p
    have := pcounts_M ps
    simp only [pcounts, ML]
    omega
end
mutual
theorem gainP_M (g : Int × Int) : ∀ (p : Piece) (w : Nat → Nat), MP (gainP g p) w = MP p w
  | .rep _ ps, w => by simp only [gainP, MP, gainL_M g ps]
  | .part .., _ => rfl
  | .sil _, _ => rfl
  | .smp .., _ => rfl
theorem gainL_M (g : Int × Int) : ∀ (ps : List Piece) (w : Nat → Nat), ML (gainL g ps) w = ML ps w
  | [], _ => rfl
  | p :: ps, w => by simp only [gainL, ML, gainP_M g p, gainL_M g ps]
end
/-! ### gains' lengths, repeats within repeats -/
mutual
def limP : Piece → Nat → Nat → Prop
  | .part _ _ _ g, c, _ => g.length ≤ c
  | .sil _, _, _ => True
  | .smp _ g, c, _ => g.length ≤ c
  | .rep _ ps, c, r => ∃ r', r = r' + 1 ∧ limL ps c r'
def limL : List Piece → Nat → Nat → Prop
  | [], _, _ => True
  | p :: ps, c, r => limP p c r ∧ limL ps c r
end
mutual
theorem limP_mono : ∀ (p : Piece) {c c' r r' : Nat}, c ≤ c' → r ≤ r' → limP p c r → limP p c' r'
  | .part .., _, _, _, _, h1, _, h => Nat.le_trans h h1
  | .sil _, _, _, _, _, _, _, _ => trivial
  | .smp .., _, _, _, _, h1, _, h => Nat.le_trans h h1
  | .rep _ ps, c, c', r, r', h1, h2, h => by
    simp only [limP] at *
    obtain ⟨q, e, h⟩ := h
    exact ⟨r' - 1, by omega, limL_mono ps h1 (by omega) h⟩
theorem limL_mono : ∀ (ps : List Piece) {c c' r r' : Nat}, c ≤ c' → r ≤ r' → limL ps c r → limL ps c' r'
  | [], _, _, _, _, _, _, _ => trivial
  | p :: ps, _, _, _, _, h1, h2, h => ⟨limP_mono p h1 h2 h.1, limL_mono ps h1 h2 h.2⟩
end
theorem mrg_lim {x y z : Piece} {c r : Nat} (h : mrg x y = some z) (hx : limP x c r) : limP z c r := by
  cases x <;> cases y <;> simp only [mrg, reduceCtorEq] at h
  · split at h
    · cases h
      exact hx
    · cases h
  · cases h
    exact trivial
theorem glue_lim {x : Piece} {ys : List Piece} {c r : Nat} (hx : limP x c r) (h : limL ys c r) : limL (glue x ys) c r := by
  cases ys with
  | nil => exact ⟨hx, trivial⟩
  | cons y q =>
    cases e : mrg x y with
    | none => rw [glue_cons_none e]; exact ⟨hx, h⟩
    | some z => rw [glue_cons_some e]; exact ⟨mrg_lim e hx, h.2⟩
theorem both_lim {c r : Nat} : ∀ (xs ys : List Piece), limL xs c r → limL ys c r → limL (both xs ys) c r
  | [], _, _, h => h
  | [_], _, h, h' => glue_lim h.1 h'
  | _ :: x' :: q, ys, h, h' => ⟨h.1, both_lim (x' :: q) ys h.2 h'⟩
theorem repd_lim {c r : Nat} (ps : List Piece) (k : Int) : limL ps c r → limL (repd ps k) c (r + 1) := by
  refine repd_cases (P := fun q ps _ => limL ps c r → limL q c (r + 1)) ?_ ?_ ?_ ?_ ?_ ps k
  · intros; trivial
  · intro ps _ h; exact limL_mono ps (Nat.le_refl _) (Nat.le_succ _) h
  · intros; exact ⟨trivial, trivial⟩
  · intro j qs k _ _ h
    have h1 := h.1
    refine ⟨?_, trivial⟩
    simp only [limP] at *
    obtain ⟨r', e, h2⟩ := h1
    exact ⟨r, rfl, limL_mono qs (Nat.le_refl _) (by omega) h2⟩
  · intro ps k _ _ _ _ _ h
    refine ⟨?_, trivial⟩
    simp only [limP]
    exact ⟨r, rfl, h⟩
mutual
theorem cutP_lim : ∀ (p : Piece) (a b : Int) {c r : Nat}, limP p c r → limL (cutP p a b) c r
  | .part .., _, _, _, _, h => ⟨h, trivial⟩
  | .sil _, _, _, _, _, _ => ⟨trivial, trivial⟩
  | .smp .., _, _, _, _, h => ⟨h, trivial⟩
  | .rep k ps, a, b, c, r, h => by
    simp only [limP] at h
    obtain ⟨q, e, h⟩ := h
    subst e
    have ih : ∀ a b, limL (cutR ps a b) c (q + 1) := fun a b => limL_mono _ (Nat.le_refl _) (Nat.le_succ _) (cutR_lim ps a b h)
    have hr := fun k => repd_lim ps k h
    simp only [cutP, cutG_eq, both]
    split
    · exact ih _ _
    · split
      · exact both_lim _ _ (both_lim _ _ (ih _ _) (hr _)) (ih _ _)
      · exact both_lim _ _ (hr _) (ih _ _)
theorem cutR_lim : ∀ (ps : List Piece) (a b : Int) {c r : Nat}, limL ps c r → limL (cutR ps a b) c r
  | [], _, _, _, _, _ => trivial
  | p :: ps, a, b, c, r, h => by
    simp only [cutR]
    refine both_lim _ _ ?_ (cutR_lim ps _ _ h.2)
    split
    · exact cutP_lim p _ _ h.1
    · trivial
end
mutual
theorem gainP_lim (g : Int × Int) : ∀ (p : Piece) {c r : Nat}, limP p c r → limP (gainP g p) (c + 1) r
  | .part .., _, _, h => by
    simp only [gainP, limP, List.length_append, List.length_singleton] at *
    omega
  | .sil _, _, _, _ => trivial
  | .smp .., _, _, h => by
    simp only [gainP, limP, List.length_append, List.length_singleton] at *
    omega
  | .rep _ ps, c, r, h => by
    simp only [gainP, limP] at *
    obtain ⟨q, e, h⟩ := h
    exact ⟨q, e, gainL_lim g ps h⟩
theorem gainL_lim (g : Int × Int) : ∀ (ps : List Piece) {c r : Nat}, limL ps c r → limL (gainL g ps) (c + 1) r
  | [], _, _, _ => trivial
  | p :: ps, _, _, h => ⟨gainP_lim g p h.1, gainL_lim g ps h.2⟩
end
/-! ### trees -/
inductive Tree where
  | sil (n : Int)
  | smp (xs : List Int)
  | part (n : Bool) (s e : Int)
  | sum (a b : Tree)
  | times (a : Tree) (k : Int)
  | gain (a : Tree) (t b : Int)
  | cut (a : Tree) (s e : Int)
def lo3 (s e t : Int) : Int := min (min s t) (min e t)
def hi3 (s e t : Int) : Int := max (min s t) (min e t)
def pcs : Tree → List Piece
  | .sil n => if n > 0 then [.sil n] else []
  | .smp xs => if xs = [] then [] else [.smp xs []]
  | .part n s e => if s < e then [.part n s e []] else []
  | .sum a b => both (pcs a) (pcs b)
  | .times a k => repd (pcs a) k
  | .gain a t b => gainL (t, b) (pcs a)
  | .cut a s e => cutL (pcs a) (lo3 s e (total (pcs a))) (hi3 s e (total (pcs a)))
def okT : Tree → Nat → Prop
  | .sil n, _ => 0 ≤ n ∧ n ≤ 8
  | .smp xs, _ => xs.length ≤ 5
  | .part _ s e, _ => 0 ≤ s ∧ s ≤ e ∧ e ≤ 12
  | .sum a b, d => ∃ q, d = q + 1 ∧ okT a q ∧ okT b q
  | .times a k, d => ∃ q, d = q + 1 ∧ okT a q ∧ 0 ≤ k ∧ k ≤ 3
  | .gain a t b, d => ∃ q, d = q + 1 ∧ okT a q ∧ -4 ≤ t ∧ t ≤ 4 ∧ 1 ≤ b ∧ b ≤ 4
  | .cut a s e, d => ∃ q, d = q + 1 ∧ okT a q ∧ 0 ≤ s ∧ s ≤ 11 ∧ 0 ≤ e ∧ e ≤ 11
def T3 (d : Nat) : Int := 12 * 3 ^ d
structure Gd (d : Nat) (ps : List Piece) : Prop where
  ok : okL ps
  nrm : Nrm ps
  tot : total ps ≤ T3 d
  cnt : ∀ j, ML ps (qn j) ≤ Bt d j
  lim : limL ps d d
theorem T3_succ (d : Nat) : T3 (d + 1) = 3 * T3 d := by
  unfold T3
  rw [Int.pow_succ]
  omega
theorem T3_ge (d : Nat) : 12 ≤ T3 d := by
  induction d with
  | zero => decide
  | succ d ih => rw [T3_succ]; omega
theorem Bt_ge : ∀ (d j : Nat), 1 ≤ Bt d j
  | 0, _ => Nat.le_refl _
  | d + 1, j => by
    have := Bt_ge d j
    simp only [Bt]
    omega
theorem Gd.nil (d : Nat) : Gd d [] := ⟨trivial, trivial, by have := T3_ge d; simp only [total]; omega, fun j => Nat.zero_le _, trivial⟩
theorem Gd.leaf {d : Nat} {p : Piece} (h : okP p) (h1 : plen p ≤ 12) (h2 : ∀ w, MP p w = w 0) (h3 : limP p d d) : Gd d [p] :=
  ⟨⟨h, trivial⟩, trivial, by have := T3_ge d; simp only [total]; omega, fun j => by
    have := Bt_ge d j
    simp only [ML, h2, qn_zero]
    omega, ⟨h3, trivial⟩⟩
theorem lo3_hi3 {s e t : Int} (h : 0 ≤ s) (h' : 0 ≤ e) (ht : 0 ≤ t) : 0 ≤ lo3 s e t ∧ lo3 s e t ≤ hi3 s e t ∧ hi3 s e t ≤ t := by
  unfold lo3 hi3
  omega
theorem Gd.sum {d : Nat} {xs ys : List Piece} (a : Gd d xs) (b : Gd d ys) : Gd (d + 1) (both xs ys) := by
  refine ⟨both_ok _ _ a.ok b.ok, both_nrm _ _ a.nrm b.nrm, ?_, fun j => ?_, ?_⟩
  · have := a.tot
    have := b.tot
    have := T3_ge d
    rw [both_total, T3_succ]
    omega
  · have := a.cnt j
    have := b.cnt j
    have := both_M xs ys (qn j)
    simp only [Bt]
    omega
  · exact both_lim _ _ (limL_mono _ (Nat.le_succ _) (Nat.le_succ _) a.lim) (limL_mono _ (Nat.le_succ _) (Nat.le_succ _) b.lim)
theorem Gd.times {d : Nat} {xs : List Piece} {k : Int} (a : Gd d xs) (h0 : 0 ≤ k) (h1 : k ≤ 3) : Gd (d + 1) (repd xs k) := by
  have r := repd_ok xs k h0 a.ok a.nrm
  refine ⟨r.1, r.2, ?_, fun j => ?_, ?_⟩
  · have h2 := a.tot
    have h3 := total_nn a.ok
    rw [repd_total, T3_succ]
    have h4 : k * total xs ≤ 3 * total xs := Int.mul_le_mul_of_nonneg_right h1 h3
    omega
  · have h1 := repd_M (qn_mon j) xs k
    have h2 := up_le a.cnt j
    rw [qn_zero] at h1
    simp only [Bt]
    omega
  · exact limL_mono _ (Nat.le_succ _) (Nat.le_refl _) (repd_lim xs k a.lim)
theorem Gd.gain {d : Nat} {xs : List Piece} (g : Int × Int) (a : Gd d xs) : Gd (d + 1) (gainL g xs) := by
  refine ⟨gainL_ok g _ a.ok, gainL_nrm g _ a.nrm, ?_, fun j => ?_, ?_⟩
  · have := a.tot
    have := T3_ge d
    rw [gainL_total, T3_succ]
    omega
  · have := a.cnt j
    rw [gainL_M]
    simp only [Bt]
    omega
  · exact limL_mono _ (Nat.le_refl _) (Nat.le_succ _) (gainL_lim g _ a.lim)
theorem Gd.cut {d : Nat} {xs : List Piece} {s e : Int} (a : Gd d xs) (h0 : 0 ≤ s) (h1 : s ≤ e) (h2 : e ≤ total xs) : Gd (d + 1) (cutL xs s e) := by
  have r := cutL_ok a.ok s e
  refine ⟨r.1, r.2, ?_, fun j => ?_, ?_⟩
  · have := a.tot
    have := T3_ge d
    rw [cutL_total a.ok h0 h1 h2, T3_succ]
    omega
  · have h1 := cutR_M xs s e (qn j) (qn_mon j) a.ok
    have h2 := a.cnt (j + 1)
    rw [cutL_eq]
    have e1 : ML xs (qw (qn j)) = ML xs (qn (j + 1)) := rfl
    simp only [Bt]
    omega
  · rw [cutL_eq]
    exact limL_mono _ (Nat.le_succ _) (Nat.le_succ _) (cutR_lim xs s e a.lim)
theorem pcs_good : ∀ (t : Tree) (d : Nat), okT t d → Gd d (pcs t)
  | .sil n, d, h => by
    simp only [okT] at h
    simp only [pcs]
    split
    · exact Gd.leaf (by simp only [okP]; omega) (by simp only [plen]; omega) (fun _ => rfl) trivial
    · exact Gd.nil d
  | .smp xs, d, h => by
    simp only [okT] at h
    simp only [pcs]
    split
    · exact Gd.nil d
    · rename_i c
      exact Gd.leaf c (by simp only [plen]; omega) (fun _ => rfl) (Nat.zero_le _)
  | .part n s e, d, h => by
    simp only [okT] at h
    simp only [pcs]
    split
    · exact Gd.leaf (by simp only [okP]; omega) (by simp only [plen]; omega) (fun _ => rfl) (Nat.zero_le _)
    · exact Gd.nil d
  | .sum a b, d, h => by
    simp only [okT] at h
    obtain ⟨q, rfl, h1, h2⟩ := h
    exact (pcs_good a q h1).sum (pcs_good b q h2)
  | .times a k, d, h => by
    simp only [okT] at h
    obtain ⟨q, rfl, h1, h2, h3⟩ := h
    exact (pcs_good a q h1).times h2 h3
  | .gain a t b, d, h => by
    simp only [okT] at h
    obtain ⟨q, rfl, h1, h2⟩ := h
    exact (pcs_good a q h1).gain (t, b)
  | .cut a s e, d, h => by
    simp only [okT] at h
    obtain ⟨q, rfl, h1, h2⟩ := h
    have g := pcs_good a q h1
    have l := lo3_hi3 h2.1 h2.2.2.1 (total_nn g.ok)
    exact g.cut l.1 l.2.1 l.2.2
theorem Bt_le : ∀ (d : Nat), d ≤ 6 → Bt d 0 ≤ 200 := by decide
end Cl

/-! part Fw -/
namespace Cl
open PySem L2

abbrev Frg := PySem.W.Frag
/-- a mode: nothing is exempt; the pool's list is; a list of one's own is -/
inductive Mo where
  | non
  | pool (a : Addr)
  | lst (a : Addr)
def Mo.ad : Mo → Option Addr
  | .non => none
  | .pool a => some a
  | .lst a => some a
def del (m : Mo) (H : Hp) : Hp := fun b => if some b = m.ad then none else H b
theorem del_non (H : Hp) : del .non H = H := by
  funext b
  unfold del
  rw [if_neg (by intro h; cases h)]
theorem del_sub {m : Mo} {H : Hp} : Same (del m H) H := fun b u h => by
  unfold del at h
  split at h
  · cases h
  · exact h
theorem del_ne {m : Mo} {H : Hp} {b : Addr} (h : some b ≠ m.ad) : del m H b = H b := by
  unfold del
  rw [if_neg h]
theorem del_same {m : Mo} {H H' : Hp} (e : Same H H') : Same (del m H) (del m H') := fun b u h => by
  unfold del at h ⊢
  split at h
  · cases h
  · rename_i hb
    rw [if_neg hb]
    exact e b u h
def PoolAt (H : Hp) (a : Addr) : Prop := ∃ x y : Int, H a = some (.lst [.int x, .int y])
def WF : Mo → Hp → Prop
  | .non, _ => True
  | .pool a, H => PoolAt H a
  | .lst a, H => ∃ xs, H a = some (.lst xs)
theorem WF.sm {m : Mo} {H : Hp} (w : WF m H) {a : Addr} (h : m.ad = some a) : ∃ xs, H a = some (.lst xs) := by
  cases m with
  | non => cases h
  | pool b =>
    cases h
    obtain ⟨x, y, e⟩ := w
    exact ⟨_, e⟩
  | lst b =>
    cases h
    exact w
def Kp : Mo → Hp → Hp → Prop
  | .non, _, _ => True
  | .pool a, H, H' => PoolAt H a → PoolAt H' a
  | .lst a, H, H' => H' a = H a
structure Le (m : Mo) (H H' : Hp) : Prop where
  ex : Same (del m H) (del m H')
  kp : Kp m H H'
section
variable {m : Mo} {H H1 H2 H' : Hp} {p : Addr} {u : HO}
theorem Le.refl (H : Hp) : Le m H H := ⟨Same.refl _, by cases m <;> first | trivial | exact fun h => h | rfl⟩
theorem Le.trans (a : Le m H H1) (b : Le m H1 H2) : Le m H H2 := ⟨a.ex.trans b.ex, by
  cases m with
  | non => trivial
  | pool x => exact fun h => b.kp (a.kp h)
  | lst x => exact Eq.trans b.kp a.kp⟩
theorem Le.of (w : WF m H) (e : Same H H') : Le m H H' := ⟨del_same e, by
  cases m with
  | non => trivial
  | pool x => exact fun ⟨y, z, h⟩ => ⟨y, z, e _ _ h⟩
  | lst x =>
    obtain ⟨xs, h⟩ := w
    show H' x = H x
    rw [h]
    exact e _ _ h⟩
theorem Le.wf (l : Le m H H') (w : WF m H) : WF m H' := by
  cases m with
  | non => trivial
  | pool x => exact l.kp w
  | lst x =>
    obtain ⟨xs, h⟩ := w
    exact ⟨xs, Eq.trans l.kp h⟩
theorem same_new (h : H p = none) : Same H (upd H p u) := fun b o q => by
  rw [upd_ne (ne_of_none q h)]
  exact q
theorem Le.new (w : WF m H) (h : H p = none) : Le m H (upd H p u) := .of w (same_new h)
theorem WF.ne (w : WF m H) (h : H p = none) : some p ≠ m.ad := fun e => by
  obtain ⟨xs, q⟩ := w.sm e.symm
  rw [h] at q
  cases q
theorem del_new (w : WF m H) (h : H p = none) : del m (upd H p u) p = some u := by
  rw [del_ne (w.ne h), upd_same]
theorem del_upd_self {a : Addr} (h : m.ad = some a) : del m (upd H a u) = del m H := by
  funext b
  unfold del
  by_cases e : some b = m.ad
  · rw [if_pos e, if_pos e]
  · rw [if_neg e, if_neg e, upd_ne]
    intro q
    subst q
    exact e h.symm
end

/-! ### data over heaps -/
section
variable {K : Frg} {H H' : Hp}
theorem seqT (e : Same H H') {a : Addr} {xs : List V} (h : SqT K H a xs) : SqT K H' a xs := by
  rcases h with (h | ⟨o, h⟩) | h
  · exact .inl (.inl (e _ _ h))
  · exact .inl (.inr ⟨o, e _ _ h⟩)
  · exact .inr h
mutual
theorem Dp.mono (e : Same H H') : ∀ (d : PyData) (v : V), Dp K H v d → Dp K H' v d
  | .none, _, .non => .non
  | .bool b, _, .bl _ => .bl b
  | .int i, _, .int _ => .int i
  | .str x, _, .str _ => .str x
  | .list ds, _, .lst h a => .lst (e.seq h) (Dp.monos e ds _ a)
  | .tuple ds, _, .tup h a => .tup (seqT e h) (Dp.monos e ds _ a)
theorem Dp.monos (e : Same H H') : ∀ (ds : List PyData) (vs : List V), DpAll K H vs ds → DpAll K H' vs ds
  | [], _, .nil => .nil
  | d :: ds, _, .cons h t => .cons (Dp.mono e d _ h) (Dp.monos e ds _ t)
end
mutual
/-- no list, no dict within -/
def LF : PyData → Bool
  | .list _ => false
  | .dict _ => false
  | .tuple ds => LFs ds
  | _ => true
def LFs : List PyData → Bool
  | [] => true
  | d :: ds => LF d && LFs ds
end
theorem lfs_iff : ∀ ds : List PyData, LFs ds = true ↔ ∀ d ∈ ds, LF d = true
  | [] => ⟨fun _ _ h => (nomatch h), fun _ => rfl⟩
  | d :: ds => by
    unfold LFs
    rw [Bool.and_eq_true, lfs_iff ds]
    exact ⟨fun h e he => (List.mem_cons.mp he).elim (fun q => q ▸ h.1) (h.2 e), fun h => ⟨h d List.mem_cons_self, fun e he => h e (List.mem_cons_of_mem _ he)⟩⟩
mutual
theorem Dp.tups (e : ∀ a xs, Rd H a (.tup xs) → Rd H' a (.tup xs)) : ∀ (d : PyData) (v : V), LF d = true → Dp K H v d → Dp K H' v d
  | .none, _, _, .non => .non
  | .bool b, _, _, .bl _ => .bl b
  | .int i, _, _, .int _ => .int i
  | .str x, _, _, .str _ => .str x
  | .list ds, _, l, _ => nomatch l
  | .tuple ds, _, l, .tup h a => .tup (h.elim (fun h => .inl (e _ _ h)) .inr) (Dp.tupss e ds _ l a)
theorem Dp.tupss (e : ∀ a xs, Rd H a (.tup xs) → Rd H' a (.tup xs)) : ∀ (ds : List PyData) (vs : List V), LFs ds = true → DpAll K H vs ds → DpAll K H' vs ds
  | [], _, _, .nil => .nil
  | d :: ds, _, l, .cons h t => .cons (Dp.tups e d _ (Bool.and_eq_true_iff.mp l).1 h) (Dp.tupss e ds _ (Bool.and_eq_true_iff.mp l).2 t)
end
/-- a tuple is not at a list's place -/
theorem rd_del {m : Mo} (w : WF m H) {a : Addr} {xs : List V} (h : Rd H a (.tup xs)) : Rd (del m H) a (.tup xs) := by
  have ne : some a ≠ m.ad := fun q => by
    obtain ⟨ys, e⟩ := w.sm q.symm
    rcases h with h | ⟨o, h⟩ <;> (rw [e] at h; cases h)
  rcases h with h | ⟨o, h⟩
  · exact .inl ((del_ne ne).trans h)
  · exact .inr ⟨o, (del_ne ne).trans h⟩
theorem dp_del {m : Mo} (w : WF m H) {d : PyData} {v : V} (l : LF d = true) (h : Dp K H v d) : Dp K (del m H) v d := Dp.tups (fun _ _ => rd_del w) d v l h
theorem dp_dels {m : Mo} (w : WF m H) {ds : List PyData} {vs : List V} (l : LFs ds = true) (h : DpAll K H vs ds) : DpAll K (del m H) vs ds := Dp.tupss (fun _ _ => rd_del w) ds vs l h
theorem _root_.L2.DpAll.length : ∀ {ds : List PyData} {vs : List V}, DpAll K H vs ds → vs.length = ds.length
  | [], _, .nil => rfl
  | _ :: _, _, .cons _ t => congrArg (· + 1) (L2.DpAll.length t)
theorem _root_.L2.DpAll.get : ∀ {ds : List PyData} {vs : List V} {i : Nat} {d : PyData}, DpAll K H vs ds → ds[i]? = some d → ∃ v, vs[i]? = some v ∧ Dp K H v d
  | [], _, _, _, .nil, h => by simp at h
  | _ :: _, _, 0, _, .cons h _, e => by simp at e; subst e; exact ⟨_, rfl, h⟩
  | _ :: _, _, i + 1, d, .cons _ t, e => by
    obtain ⟨v, h1, h2⟩ := L2.DpAll.get (i := i) (d := d) t (by simpa using e)
    exact ⟨v, by simpa using h1, h2⟩
theorem _root_.L2.DpAll.get' : ∀ {ds : List PyData} {vs : List V} {i : Nat} {v : V}, DpAll K H vs ds → vs[i]? = some v → ∃ d, ds[i]? = some d ∧ Dp K H v d
  | [], _, _, _, .nil, h => by simp at h
  | d :: _, _, 0, _, .cons h _, e => by simp at e; subst e; exact ⟨d, rfl, h⟩
  | _ :: _, _, i + 1, d, .cons _ t, e => by
    obtain ⟨v, h1, h2⟩ := L2.DpAll.get' (i := i) (v := d) t (by simpa using e)
    exact ⟨v, by simpa using h1, h2⟩
theorem _root_.L2.DpAll.append : ∀ {ds es : List PyData} {vs ws : List V}, DpAll K H vs ds → DpAll K H ws es → DpAll K H (vs ++ ws) (ds ++ es)
  | [], _, _, _, .nil, h => h
  | _ :: _, _, _, _, .cons h t, q => .cons h (L2.DpAll.append t q)
theorem _root_.L2.DpAll.take : ∀ {ds : List PyData} {vs : List V} (n : Nat), DpAll K H vs ds → DpAll K H (vs.take n) (ds.take n)
  | _, _, 0, _ => by rw [List.take_zero, List.take_zero]; exact .nil
  | [], _, _ + 1, .nil => .nil
  | _ :: _, _, n + 1, .cons h t => .cons h (L2.DpAll.take n t)
theorem _root_.L2.DpAll.drop : ∀ {ds : List PyData} {vs : List V} (n : Nat), DpAll K H vs ds → DpAll K H (vs.drop n) (ds.drop n)
  | _, _, 0, h => h
  | [], _, _ + 1, .nil => .nil
  | _ :: _, _, n + 1, .cons _ t => L2.DpAll.drop n t
theorem _root_.L2.DpAll.set {v : V} {d : PyData} (r : Dp K H v d) : ∀ {ds : List PyData} {vs : List V} (i : Nat), DpAll K H vs ds → DpAll K H (vs.set i v) (ds.set i d)
  | [], _, _, .nil => .nil
  | _ :: _, _, 0, .cons _ t => .cons r t
  | _ :: _, _, i + 1, .cons h t => .cons h (L2.DpAll.set r i t)
theorem _root_.L2.DpAll.ints : ∀ {ns : List Int} {vs : List V}, DpAll K H vs (ns.map .int) → vs = ns.map .int
  | [], _, .nil => rfl
  | _ :: _, _, .cons h t => by cases h; rw [L2.DpAll.ints t]; rfl
theorem _root_.L2.DpAll.of_ints : ∀ (ns : List Int), DpAll K H (ns.map .int) (ns.map .int)
  | [] => .nil
  | n :: ns => .cons (.int n) (L2.DpAll.of_ints ns)
theorem _root_.L2.DpAll.bls : ∀ {ns : List Bool} {vs : List V}, DpAll K H vs (ns.map .bool) → vs = ns.map .bl
  | [], _, .nil => rfl
  | _ :: _, _, .cons h t => by cases h; rw [L2.DpAll.bls t]; rfl
end

/-! ### descriptors, slots -/
structure De (m : Mo) where
  p : V → Hp → Prop
  mono : ∀ v H H', Same (del m H) (del m H') → p v H → p v H'
def Dd (K : Frg) {m : Mo} (d : PyData) : De m := ⟨fun v H => Dp K (del m H) v d, fun v _ _ l h => Dp.mono l d v h⟩
/-- the list that is exempt -/
def dAt {m : Mo} (a : Addr) : De m := ⟨fun v _ => v = .ref a, fun _ _ _ _ h => h⟩
/-- some one of many -/
def dEx {m : Mo} {α : Type} (ok : α → Prop) (P : α → De m) : De m := ⟨fun v H => ∃ x, ok x ∧ (P x).p v H, fun v H H' l ⟨x, h, q⟩ => ⟨x, h, (P x).mono v H H' l q⟩⟩
/-- an int between -/
def dIn {m : Mo} (lo hi : Int) : De m := ⟨fun v _ => ∃ i : Int, v = .int i ∧ lo ≤ i ∧ i < hi, fun _ _ _ _ h => h⟩
abbrev AllP {m : Mo} (Ps : List (De m)) (vs : List V) (H : Hp) : Prop := Paired (fun (P : De m) v => P.p v H) Ps vs
theorem AllP.mono {m : Mo} {H H' : Hp} (l : Same (del m H) (del m H')) : ∀ {Ps : List (De m)} {vs : List V}, AllP Ps vs H → AllP Ps vs H'
  | _, _, .nil => .nil
  | P :: _, v :: _, .cons h t => .cons (P.mono v H H' l h) (AllP.mono l t)
theorem AllP.data {K : Frg} {m : Mo} {H : Hp} : ∀ {ds : List PyData} {vs : List V}, AllP (m := m) (ds.map (Dd K)) vs H → DpAll K (del m H) vs ds
  | [], _, .nil => .nil
  | _ :: _, _, .cons h t => .cons h (AllP.data t)
/-- a tuple of such -/
def dTup (K : Frg) {m : Mo} (Ps : List (De m)) : De m := ⟨fun v H => ∃ a vs, v = .ref a ∧ SqT K (del m H) a vs ∧ AllP Ps vs H, fun _ _ _ l ⟨a, vs, e, h, q⟩ => ⟨a, vs, e, seqT l h, q.mono l⟩⟩

abbrev Dl (m : Mo) := List (Option (De m))
structure DS (K : Frg) {m : Mo} (H : Hp) (σ : St) (δ : Dl m) (c : List PyData) : Prop where
  wf : WF m H
  len : σ.length = δ.length
  at_ : ∀ (i : Nat) (P : De m), δ[i]? = some (some P) → ∃ v, σ[i]? = some (some v) ∧ P.p v H
  ct : ∀ a, m = .lst a → ∃ vs, H a = some (.lst vs) ∧ DpAll K (del m H) vs c
section
variable {K : Frg} {m : Mo} {H H' H0 : Hp} {σ : St} {δ δ' : Dl m} {c : List PyData} {P P' : De m} {v : V}
theorem DS.mono (l : Le m H H') (s : DS K H σ δ c) : DS K H' σ δ c where
  wf := l.wf s.wf
  len := s.len
  at_ := fun i P h => let ⟨v, e, q⟩ := s.at_ i P h; ⟨v, e, P.mono v H H' l.ex q⟩
  ct := fun a e => by
    obtain ⟨vs, h, q⟩ := s.ct a e
    subst e
    exact ⟨vs, Eq.trans l.kp h, Dp.monos l.ex _ _ q⟩
theorem DS.set (s : DS K H σ δ c) (i : Nat) (h : P.p v H) : DS K H (σ.set i (some v)) (δ.set i (some P)) c where
  wf := s.wf
  len := by rw [List.length_set, List.length_set, s.len]
  at_ := fun j Q e => by
    by_cases ij : i = j
    · subst ij
      by_cases hl : i < δ.length
      · rw [List.getElem?_set_self hl] at e
        cases e
        exact ⟨v, List.getElem?_set_self (by rw [s.len]; exact hl), h⟩
      · rw [List.getElem?_eq_none (by rw [List.length_set]; omega)] at e
        cases e
    · rw [List.getElem?_set_ne ij] at e
      obtain ⟨w, e1, q⟩ := s.at_ j Q e
      exact ⟨w, by rw [List.getElem?_set_ne ij]; exact e1, q⟩
  ct := s.ct
/-- fewer is known -/
def Sub : Dl m → Dl m → Prop
  | [], [] => True
  | x :: xs, y :: ys => (match x, y with
    | _, none => True
    | some P, some P' => ∀ v H, P.p v H → P'.p v H
    | none, some _ => False) ∧ Sub xs ys
  | _, _ => False
theorem Sub.get : ∀ {δ δ' : Dl m}, Sub δ δ' → δ.length = δ'.length ∧ ∀ (i : Nat) (P' : De m), δ'[i]? = some (some P') → ∃ P, δ[i]? = some (some P) ∧ ∀ v H, P.p v H → P'.p v H
  | [], [], _ => ⟨rfl, fun i P h => by simp at h⟩
  | x :: xs, y :: ys, h => by
    obtain ⟨h1, h2⟩ := h
    obtain ⟨e, q⟩ := Sub.get h2
    refine ⟨by rw [List.length_cons, List.length_cons, e], fun i P' hi => ?_⟩
    cases i with
    | zero =>
      simp at hi
      subst hi
      cases x with
      | none => exact h1.elim
      | some P => exact ⟨P, rfl, h1⟩
    | succ i =>
      simp at hi
      obtain ⟨P, e1, q1⟩ := q i P' hi
      exact ⟨P, by simpa using e1, q1⟩
theorem DS.sub (u : Sub δ δ') (s : DS K H σ δ c) : DS K H σ δ' c where
  wf := s.wf
  len := by rw [s.len, u.get.1]
  at_ := fun i P' h => by
    obtain ⟨P, e, q⟩ := u.get.2 i P' h
    obtain ⟨v, e1, q1⟩ := s.at_ i P e
    exact ⟨v, e1, q v H q1⟩
  ct := s.ct
theorem Sub.refl : ∀ δ : Dl m, Sub δ δ
  | [] => trivial
  | none :: r => ⟨trivial, Sub.refl r⟩
  | some _ :: r => ⟨fun _ _ h => h, Sub.refl r⟩
end

/-! ### what evaluates to what -/
def Ev (K : Frg) {m : Mo} (te : TE) (δ : Dl m) (c : List PyData) (P : De m) : Prop := ∀ (σ : St) (H : Hp) (Q : VK), DS K H σ δ c → (∀ v H', Le m H H' → P.p v H' → Q v H') → te σ H Q
def EvT (K : Frg) {m : Mo} (tt : TT) (δ : Dl m) (c : List PyData) (b : Bool) : Prop := ∀ (σ : St) (H : Hp) (Q : Bool → Hp → Prop), DS K H σ δ c → (∀ H', Le m H H' → Q b H') → tt σ H Q
def EvA (K : Frg) {m : Mo} (ta : TA) (δ : Dl m) (c : List PyData) (Ps : List (De m)) : Prop := ∀ (σ : St) (H : Hp) (Q : List V → Hp → Prop), DS K H σ δ c → (∀ vs H', Le m H H' → AllP Ps vs H' → Q vs H') → ta σ H Q
def EvO (K : Frg) {m : Mo} (to : TO) (δ : Dl m) (c : List PyData) (i : Option Int) : Prop := ∀ (σ : St) (H : Hp) (Q : Option Int → Hp → Prop), DS K H σ δ c → (∀ H', Le m H H' → Q i H') → to σ H Q
abbrev EvAD (K : Frg) {m : Mo} (ta : TA) (δ : Dl m) (c : List PyData) (ds : List PyData) : Prop := EvA K ta δ c (ds.map (Dd K))
section
variable {K : Frg} {m : Mo} {δ δ' : Dl m} {c : List PyData} {P P' : De m} {ta tb te : TE} {t u : TT} {d e : PyData} {ds es : List PyData}
theorem ev_var {i : Nat} (h : δ[i]? = some (some P)) : Ev K (tVar i) δ c P := fun σ H Q s q => by
  obtain ⟨v, e, p⟩ := s.at_ i P h
  exact ⟨v, e, q v H (Le.refl H) p⟩
theorem ev_int {i : Int} : Ev K (m := m) (tC (.int i)) δ c (Dd K (.int i)) := fun σ H Q s q => q _ H (Le.refl H) (.int i)
theorem ev_str {i : Str} : Ev K (m := m) (tC (.str i)) δ c (Dd K (.str i)) := fun σ H Q s q => q _ H (Le.refl H) (.str i)
theorem ev_bl {i : Bool} : Ev K (m := m) (tC (.bl i)) δ c (Dd K (.bool i)) := fun σ H Q s q => q _ H (Le.refl H) (.bl i)
theorem ev_non : Ev K (m := m) (tC .non) δ c (Dd K .none) := fun σ H Q s q => q _ H (Le.refl H) .non
theorem Ev.imp (h : Ev K te δ c P) (hp : ∀ v H, P.p v H → P'.p v H) : Ev K te δ c P' := fun σ H Q s q => h σ H Q s fun v H' l p => q v H' l (hp v H' p)
theorem ea_nil : EvA K (m := m) tNil δ c [] := fun σ H Q s q => q [] H (Le.refl H) .nil
theorem ea_cons {tr : TA} {Ps : List (De m)} (h : Ev K ta δ c P) (hr : EvA K tr δ c Ps) : EvA K (tCons ta tr) δ c (P :: Ps) := fun σ H Q s q =>
  h σ H _ s fun v H1 l1 p => hr σ H1 _ (s.mono l1) fun vs H2 l2 ps => q _ H2 (l1.trans l2) (.cons (P.mono v H1 H2 l2.ex p) ps)
theorem ead_nil : EvAD K (m := m) tNil δ c [] := ea_nil
theorem ead_cons {tr : TA} (h : Ev K ta δ c (Dd K d)) (hr : EvAD K tr δ c ds) : EvAD K (tCons ta tr) δ c (d :: ds) := ea_cons h hr
theorem sz3 {n : Nat} (h : n ≤ 1000000) : n ≤ sizeLine := Nat.le_trans h (by decide)
theorem ev_tup {tr : TA} {Ps : List (De m)} (h : EvA K tr δ c Ps) (hz : Ps.length ≤ 1000000) : Ev K (tTup tr) δ c (dTup K Ps) := fun σ H Q s q =>
  h σ H _ s fun vs H1 l1 ps => ⟨by rw [← ps.length]; exact sz3 hz, fun p hp => q _ _ (l1.trans (Le.new (l1.wf s.wf) hp)) ⟨p, vs, rfl, .inl (.inl (del_new (l1.wf s.wf) hp)), ps.mono (Le.new (l1.wf s.wf) hp).ex⟩⟩
theorem ev_tupD {tr : TA} (h : EvAD K tr δ c ds) (hz : ds.length ≤ 1000000 := by exact Nat.le_of_ble_eq_true rfl) : Ev K (tTup tr) δ c (Dd K (.tuple ds)) := fun σ H Q s q =>
  h σ H _ s fun vs H1 l1 ps => ⟨by rw [← ps.length, List.length_map]; exact sz3 hz, fun p hp => q _ _ (l1.trans (Le.new (l1.wf s.wf) hp))
    (.tup (.inl (.inl (del_new (l1.wf s.wf) hp))) (Dp.monos (Le.new (l1.wf s.wf) hp).ex _ _ ps.data))⟩
theorem ev_lstD {tr : TA} (h : EvAD K tr δ c ds) (hz : ds.length ≤ 1000000 := by exact Nat.le_of_ble_eq_true rfl) : Ev K (tLst tr) δ c (Dd K (.list ds)) := fun σ H Q s q =>
  h σ H _ s fun vs H1 l1 ps => ⟨by rw [← ps.length, List.length_map]; exact sz3 hz, fun p hp => q _ _ (l1.trans (Le.new (l1.wf s.wf) hp))
    (.lst (.inl (.inl (del_new (l1.wf s.wf) hp))) (Dp.monos (Le.new (l1.wf s.wf) hp).ex _ _ ps.data))⟩
theorem ev_op {r : R2} (ha : Ev K ta δ c P) (hb : Ev K tb δ c P') {P2 : De m} (hr : ∀ x y H (Q : VK), WF m H → P.p x H → P'.p y H → (∀ v H', Le m H H' → P2.p v H' → Q v H') → r x y H Q) : Ev K (tOp r ta tb) δ c P2 := fun σ H Q s q =>
  ha σ H _ s fun x H1 l1 p1 => hb σ H1 _ (s.mono l1) fun y H2 l2 p2 => hr x y H2 Q (l2.wf (l1.wf s.wf)) (P.mono x H1 H2 l2.ex p1) p2 fun v H3 l3 p3 => q v H3 ((l1.trans l2).trans l3) p3
theorem ev_I0 {i j : Int} {g : Int → Int → V} (ha : Ev K ta δ c (Dd K (.int i))) (hb : Ev K tb δ c (Dd K (.int j))) (hg : Dp K (del m fun _ => none) (g i j) d) : Ev K (tOp (rI0 g) ta tb) δ c (Dd K d) :=
  ev_op ha hb fun x y H Q w hx hy q => by
    cases hx
    cases hy
    exact ⟨i, j, rfl, rfl, q _ H (Le.refl H) (Dp.mono (fun b u h => by unfold del at h; split at h <;> cases h) _ _ hg)⟩
theorem ev_I {i j : Int} {C : Int → Int → Prop} {g : Int → Int → V} (ha : Ev K ta δ c (Dd K (.int i))) (hb : Ev K tb δ c (Dd K (.int j))) (hc : C i j) (hg : Dp K (del m fun _ => none) (g i j) d) : Ev K (tOp (rI C g) ta tb) δ c (Dd K d) :=
  ev_op ha hb fun x y H Q w hx hy q => by
    cases hx
    cases hy
    exact ⟨i, j, rfl, rfl, hc, q _ H (Le.refl H) (Dp.mono (fun b u h => by unfold del at h; split at h <;> cases h) _ _ hg)⟩
theorem ev_add {i j : Int} (ha : Ev K ta δ c (Dd K (.int i))) (hb : Ev K tb δ c (Dd K (.int j))) : Ev K (tOp (rI0 fun i j => .int (i + j)) ta tb) δ c (Dd K (.int (i + j))) := ev_I0 ha hb (.int _)
theorem ev_sub {i j : Int} (ha : Ev K ta δ c (Dd K (.int i))) (hb : Ev K tb δ c (Dd K (.int j))) : Ev K (tOp (rI0 fun i j => .int (i - j)) ta tb) δ c (Dd K (.int (i - j))) := ev_I0 ha hb (.int _)
theorem ev_mul {i j : Int} (ha : Ev K ta δ c (Dd K (.int i))) (hb : Ev K tb δ c (Dd K (.int j))) (hc : CMul i j) : Ev K (tOp (rI CMul fun i j => .int (i * j)) ta tb) δ c (Dd K (.int (i * j))) := ev_I ha hb hc (.int _)
theorem ev_fdiv {i j : Int} (ha : Ev K ta δ c (Dd K (.int i))) (hb : Ev K tb δ c (Dd K (.int j))) (hc : CDiv i j) : Ev K (tOp (rI CDiv fun i j => .int (i / j)) ta tb) δ c (Dd K (.int (i / j))) := ev_I ha hb hc (.int _)
theorem ev_mod {i j : Int} (ha : Ev K ta δ c (Dd K (.int i))) (hb : Ev K tb δ c (Dd K (.int j))) (hc : 0 < j) : Ev K (tOp (rI (fun _ j => 0 < j) fun i j => .int (i % j)) ta tb) δ c (Dd K (.int (i % j))) := ev_I (C := fun _ j => 0 < j) ha hb hc (.int _)
theorem ev_pow {i j : Int} (ha : Ev K ta δ c (Dd K (.int i))) (hb : Ev K tb δ c (Dd K (.int j))) (hc : CPow i j) : Ev K (tOp (rI CPow fun i j => .int (i ^ j.toNat)) ta tb) δ c (Dd K (.int (i ^ j.toNat))) := ev_I ha hb hc (.int _)
theorem ev_lt {i j : Int} (ha : Ev K ta δ c (Dd K (.int i))) (hb : Ev K tb δ c (Dd K (.int j))) : Ev K (tOp (rI0 fun i j => .bl (decide (i < j))) ta tb) δ c (Dd K (.bool (decide (i < j)))) := ev_I0 ha hb (.bl _)
theorem ev_le {i j : Int} (ha : Ev K ta δ c (Dd K (.int i))) (hb : Ev K tb δ c (Dd K (.int j))) : Ev K (tOp (rI0 fun i j => .bl (decide (i ≤ j))) ta tb) δ c (Dd K (.bool (decide (i ≤ j)))) := ev_I0 ha hb (.bl _)
theorem ev_gt {i j : Int} (ha : Ev K ta δ c (Dd K (.int i))) (hb : Ev K tb δ c (Dd K (.int j))) : Ev K (tOp (rI0 fun i j => .bl (decide (j < i))) ta tb) δ c (Dd K (.bool (decide (j < i)))) := ev_I0 ha hb (.bl _)
theorem ev_ge {i j : Int} (ha : Ev K ta δ c (Dd K (.int i))) (hb : Ev K tb δ c (Dd K (.int j))) : Ev K (tOp (rI0 fun i j => .bl (decide (j ≤ i))) ta tb) δ c (Dd K (.bool (decide (j ≤ i)))) := ev_I0 ha hb (.bl _)
/-- scalars: ==, != -/
def scD : PyData → PyData → Bool
  | .none, .none => true | .none, .int _ => true | .int _, .none => true
  | .int _, .int _ => true | .bool _, .bool _ => true | .str _, .str _ => true
  | _, _ => false
def sEq : PyData → PyData → Bool
  | .none, .none => true
  | .int i, .int j => decide (i = j) | .bool a, .bool b => decide (a = b) | .str x, .str y => decide (x = y)
  | _, _ => false
theorem sEq_of {H : Hp} {x y : V} (hx : Dp K H x d) (hy : Dp K H y e) (hs : scD d e = true) : scal x y = true ∧ decide (x = y) = sEq d e := by
  cases hx <;> cases hy <;> first
    | exact absurd hs Bool.false_ne_true
    | exact ⟨rfl, by simp [sEq]⟩
theorem ev_eq (ha : Ev K ta δ c (Dd K d)) (hb : Ev K tb δ c (Dd K e)) (hs : scD d e = true) : Ev K (tOp rEq ta tb) δ c (Dd K (.bool (sEq d e))) :=
  ev_op ha hb fun x y H Q w hx hy q => by
    obtain ⟨h1, h2⟩ := sEq_of hx hy hs
    refine ⟨h1, ?_⟩
    rw [h2]
    exact q _ H (Le.refl H) (.bl _)
theorem ev_ne (ha : Ev K ta δ c (Dd K d)) (hb : Ev K tb δ c (Dd K e)) (hs : scD d e = true) : Ev K (tOp rNe ta tb) δ c (Dd K (.bool (!sEq d e))) :=
  ev_op ha hb fun x y H Q w hx hy q => by
    obtain ⟨h1, h2⟩ := sEq_of hx hy hs
    refine ⟨h1, ?_⟩
    rw [h2]
    exact q _ H (Le.refl H) (.bl _)
/-- deep ==, != -/
theorem ev_eqD (ha : Ev K ta δ c (Dd K d)) (hb : Ev K tb δ c (Dd K e)) (h1 : SeqAt.shaped d = true) (h2 : SeqAt.shaped e = true) : Ev K (tOp (rEqD K) ta tb) δ c (Dd K (.bool (PyData.eqv d e))) :=
  ev_op ha hb fun x y H Q w hx hy q => ⟨d, e, Dp.mono del_sub d x hx, Dp.mono del_sub e y hy, h1, h2, q _ H (Le.refl H) (.bl _)⟩
theorem ev_neD (ha : Ev K ta δ c (Dd K d)) (hb : Ev K tb δ c (Dd K e)) (h1 : SeqAt.shaped d = true) (h2 : SeqAt.shaped e = true) : Ev K (tOp (rNeD K) ta tb) δ c (Dd K (.bool (!PyData.eqv d e))) :=
  ev_op ha hb fun x y H Q w hx hy q => ⟨d, e, Dp.mono del_sub d x hx, Dp.mono del_sub e y hy, h1, h2, q _ H (Le.refl H) (.bl _)⟩
def rIsN : R2 := fun x y H Q => y = .non ∧ Q (.bl (decide (x = .non))) H
def isN : PyData → Bool
  | .none => true
  | _ => false
theorem ev_isN (ha : Ev K ta δ c (Dd K d)) : Ev K (tOp rIsN ta (tC .non)) δ c (Dd K (.bool (isN d))) :=
  ev_op ha ev_non fun x y H Q w hx hy q => by
    cases hy
    refine ⟨rfl, ?_⟩
    have e : decide (x = .non) = isN d := by cases hx <;> simp [isN]
    rw [e]
    exact q _ H (Le.refl H) (.bl _)
/-- items -/
theorem atI_rel {H : Hp} {vs : List V} {i : Int} (h : DpAll K H vs ds) (e : atI ds i = some d) : ∃ v, atI vs i = some v ∧ Dp K H v d := by
  unfold atI at e ⊢
  rw [h.length]
  cases q : ixN ds.length i with
  | none => rw [q] at e; cases e
  | some j =>
    rw [q] at e
    exact h.get e
theorem ev_ix {i : Int} (ha : Ev K ta δ c (Dd K (.tuple ds))) (hb : Ev K tb δ c (Dd K (.int i))) (h : atI ds i = some d) : Ev K (tOp (rIxT K) ta tb) δ c (Dd K d) :=
  ev_op ha hb fun x y H Q w hx hy q => by
    cases hy
    cases hx with
    | tup hq hall =>
      obtain ⟨v, e, p⟩ := atI_rel hall h
      exact ⟨_, _, i, v, rfl, rfl, seqT del_sub hq, e, q v H (Le.refl H) p⟩
theorem ev_ixL {i : Int} (ha : Ev K ta δ c (Dd K (.list ds))) (hb : Ev K tb δ c (Dd K (.int i))) (h : atI ds i = some d) : Ev K (tOp (rIxL K) ta tb) δ c (Dd K d) :=
  ev_op ha hb fun x y H Q w hx hy q => by
    cases hy
    cases hx with
    | lst hq hall =>
      obtain ⟨v, e, p⟩ := atI_rel hall h
      exact ⟨_, _, i, v, rfl, rfl, Same.seq del_sub hq, e, q v H (Le.refl H) p⟩
/-- t + u -/
theorem ev_cat (ha : Ev K ta δ c (Dd K (.tuple ds))) (hb : Ev K tb δ c (Dd K (.tuple es))) (hz : ds.length + es.length ≤ 1000000) : Ev K (tOp (rCatA K) ta tb) δ c (Dd K (.tuple (ds ++ es))) :=
  ev_op ha hb fun x y H Q w hx hy q => by
    cases hx with
    | @tup a xs _ hq hall =>
      cases hy with
      | @tup b ys _ hq2 hall2 =>
        refine ⟨a, b, xs, ys, rfl, rfl, seqT del_sub hq, seqT del_sub hq2, by rw [hall.length, hall2.length]; exact sz3 hz, fun h0 => ?_, fun h0 h1 => ?_, fun h0 h1 p hp => ?_⟩
        · subst h0
          cases hall
          exact q _ H (Le.refl H) (.tup hq2 hall2)
        · subst h1
          cases hall2
          rw [List.append_nil] at q
          exact q _ H (Le.refl H) (.tup hq hall)
        · exact q _ _ (Le.new w hp) (.tup (.inl (.inl (del_new w hp))) (Dp.monos (Le.new w hp).ex _ _ (hall.append hall2)))
def cutD {α : Type} (xs : List α) (lo hi : Option Int) : List α := (xs.drop (HT.sIx xs.length 0 lo)).take (HT.sIx xs.length xs.length hi - HT.sIx xs.length 0 lo)
theorem eo_none : EvO K (m := m) tNoPart δ c none := fun σ H Q s q => q H (Le.refl H)
theorem eo_some {i : Int} (h : Ev K ta δ c (Dd K (.int i))) : EvO K (tPart ta) δ c (some i) := fun σ H Q s q => h σ H _ s fun x H1 l p => by
  cases p
  exact ⟨i, rfl, q H1 l⟩
theorem ev_sl {tl th : TO} {lo hi : Option Int} (ha : Ev K ta δ c (Dd K (.tuple ds))) (hl : EvO K tl δ c lo) (hh : EvO K th δ c hi) : Ev K (tSl (rSlA K) ta tl th) δ c (Dd K (.tuple (cutD ds lo hi))) := fun σ H Q s q =>
  ha σ H _ s fun x H1 l1 p => hl σ H1 _ (s.mono l1) fun H2 l2 => hh σ H2 _ (s.mono (l1.trans l2)) fun H3 l3 => by
    have p := Dp.mono (l2.trans l3).ex _ _ p
    have w := ((l1.trans l2).trans l3).wf s.wf
    cases p with
    | @tup a xs _ hq hall =>
      refine ⟨a, xs, rfl, seqT del_sub hq, fun h => q _ H3 ((l1.trans l2).trans l3) ?_, fun h p hp => q _ _ (((l1.trans l2).trans l3).trans (Le.new w hp)) ?_⟩
      · have e : cutD ds lo hi = ds := by
          unfold cutD
          rw [← hall.length, h.1, h.2, List.drop_zero, hall.length, Nat.sub_zero, List.take_length]
        rw [e]
        exact .tup hq hall
      · refine .tup (.inl (.inl (del_new w hp))) (Dp.monos (Le.new w hp).ex _ _ ?_)
        unfold cutV cutD
        rw [hall.length]
        exact (hall.drop _).take _
/-- tests -/
theorem et_of {b : Bool} (h : Ev K te δ c (Dd K (.bool b))) : EvT K (tTest te) δ c b := fun σ H Q s q => h σ H _ s fun x H1 l p => by
  cases p
  exact ⟨b, rfl, q H1 l⟩
theorem et_B {b : Bool} (h : Ev K te δ c (Dd K (.bool b))) : EvT K (tB te) δ c b := fun σ H Q s q => h σ H _ s fun x H1 l p => by
  cases p
  exact ⟨b, rfl, q H1 l⟩
theorem EvT.to {b b' : Bool} (h : EvT K t δ c b) (e : b = b') : EvT K t δ c b' := e ▸ h
theorem et_and {a b : Bool} (h1 : EvT K t δ c a) (h2 : a = true → EvT K u δ c b) : EvT K (tAnd t u) δ c (a && b) := fun σ H Q s q => h1 σ H _ s fun H1 l1 => by
  cases a with
  | true =>
    rw [if_pos rfl]
    exact h2 rfl σ H1 Q (s.mono l1) fun H2 l2 => q H2 (l1.trans l2)
  | false =>
    rw [if_neg Bool.false_ne_true]
    exact q H1 l1
theorem et_or {a b : Bool} (h1 : EvT K t δ c a) (h2 : a = false → EvT K u δ c b) : EvT K (tOr t u) δ c (a || b) := fun σ H Q s q => h1 σ H _ s fun H1 l1 => by
  cases a with
  | false =>
    rw [if_neg Bool.false_ne_true]
    exact h2 rfl σ H1 Q (s.mono l1) fun H2 l2 => q H2 (l1.trans l2)
  | true =>
    rw [if_pos rfl]
    exact q H1 l1
theorem et_andT {b : Bool} (h1 : EvT K t δ c true) (h2 : EvT K u δ c b) : EvT K (tAnd t u) δ c b := et_and h1 fun _ => h2
theorem et_andF (h1 : EvT K t δ c false) : EvT K (tAnd t u) δ c false := et_and (b := true) h1 (nofun)
theorem et_orT (h1 : EvT K t δ c true) : EvT K (tOr t u) δ c true := et_or (b := true) h1 (nofun)
theorem et_orF {b : Bool} (h1 : EvT K t δ c false) (h2 : EvT K u δ c b) : EvT K (tOr t u) δ c b := et_or h1 fun _ => h2
theorem et_not {a : Bool} (h1 : EvT K t δ c a) : EvT K (tNot t) δ c (!a) := fun σ H Q s q => h1 σ H _ s fun H1 l1 => q H1 l1
theorem ev_ifT (h : EvT K t δ c true) (h1 : Ev K ta δ c P) : Ev K (tIf t ta tb) δ c P := fun σ H Q s q => h σ H _ s fun H1 l1 => by
  rw [if_pos rfl]
  exact h1 σ H1 Q (s.mono l1) fun v H2 l2 => q v H2 (l1.trans l2)
theorem ev_ifF (h : EvT K t δ c false) (h1 : Ev K tb δ c P) : Ev K (tIf t ta tb) δ c P := fun σ H Q s q => h σ H _ s fun H1 l1 => by
  rw [if_neg Bool.false_ne_true]
  exact h1 σ H1 Q (s.mono l1) fun v H2 l2 => q v H2 (l1.trans l2)
theorem ev_if {b : Bool} (h : EvT K t δ c b) (h1 : b = true → Ev K ta δ c P) (h2 : b = false → Ev K tb δ c P) : Ev K (tIf t ta tb) δ c P := by
  cases b with
  | true => exact ev_ifT h (h1 rfl)
  | false => exact ev_ifF h (h2 rfl)
theorem ev_andV {a b : Bool} (h1 : Ev K ta δ c (Dd K (.bool a))) (h2 : a = true → Ev K tb δ c (Dd K (.bool b))) : Ev K (tAndV ta tb) δ c (Dd K (.bool (a && b))) := fun σ H Q s q => h1 σ H _ s fun x H1 l1 p => by
  cases p
  refine ⟨a, rfl, ?_⟩
  cases a with
  | true =>
    rw [if_pos rfl]
    exact h2 rfl σ H1 Q (s.mono l1) fun v H2 l2 => q v H2 (l1.trans l2)
  | false =>
    rw [if_neg Bool.false_ne_true]
    exact q _ H1 l1 (.bl false)
theorem ev_notV {a : Bool} (h1 : Ev K ta δ c (Dd K (.bool a))) : Ev K (tNotV ta) δ c (Dd K (.bool (!a))) := fun σ H Q s q => h1 σ H _ s fun x H1 l1 p => by
  cases p
  exact ⟨a, rfl, q _ H1 l1 (.bl _)⟩
/-- a <= b <= e -/
theorem ev_chain {tc : TE} {i j k : Int} {f g : Int → Int → Bool} (ha : Ev K ta δ c (Dd K (.int i))) (hb : Ev K tb δ c (Dd K (.int j))) (hc : Ev K tc δ c (Dd K (.int k))) :
    Ev K (tChain (rI0 fun i j => .bl (f i j)) (rI0 fun i j => .bl (g i j)) ta tb tc) δ c (Dd K (.bool (f i j && g j k))) := fun σ H Q s q =>
  ha σ H _ s fun x H1 l1 p1 => hb σ H1 _ (s.mono l1) fun y H2 l2 p2 => by
    cases p1
    cases p2
    refine ⟨i, j, rfl, rfl, f i j, rfl, ?_⟩
    cases e : f i j with
    | true =>
      rw [if_pos rfl]
      refine hc σ H2 _ (s.mono (l1.trans l2)) fun z H3 l3 p3 => ?_
      cases p3
      rw [e] at q
      exact ⟨j, k, rfl, rfl, q _ H3 ((l1.trans l2).trans l3) (.bl _)⟩
    | false =>
      rw [if_neg Bool.false_ne_true]
      rw [e] at q
      exact q _ H2 (l1.trans l2) (.bl _)
/-- calls of built-ins -/
theorem ev_cb {r : List V → Hp → VK → Prop} {tr : TA} {Ps : List (De m)} (h : EvA K tr δ c Ps) (hr : ∀ vs H (Q : VK), WF m H → AllP Ps vs H → (∀ v H', Le m H H' → P.p v H' → Q v H') → r vs H Q) : Ev K (tCB r tr) δ c P := fun σ H Q s q =>
  h σ H _ s fun vs H1 l1 ps => hr vs H1 Q (l1.wf s.wf) ps fun v H2 l2 p => q v H2 (l1.trans l2) p
/-- calls of defs that only make things: data to data -/
def spD (K : Frg) (R : List PyData → PyData → Prop) : Sp := fun vs H Q _ => ∃ ds d, DpAll K H vs ds ∧ R ds d ∧ ∀ v H', Same H H' → Dp K H' v d → Q v H'
theorem ev_call {R : List PyData → PyData → Prop} {E : XK} {tr : TA} (h : EvAD K tr δ c ds) (hR : R ds d) (hl : LF d = true) : Ev K (tCall (spD K R) [] E tr) δ c (Dd K d) := fun σ H Q s q =>
  h σ H _ s fun vs H1 l1 ps => ⟨ds, d, by rw [List.append_nil]; exact Dp.monos del_sub _ _ ps.data, hR, fun v H2 e p => q v H2 (l1.trans (Le.of (l1.wf s.wf) e)) (dp_del ((Le.of (l1.wf s.wf) e).wf (l1.wf s.wf)) hl p)⟩
end
end Cl

/-! part Fs -/
namespace Cl
open PySem L2

/-! ### statements: H0 the heap that the last step must extend (but for the exempt list) -/
def Ls (m : Mo) (H H' : Hp) : Prop := Same (del m H) (del m H')
def S (K : Frg) {m : Mo} (ts : TS) (D : Ends) (δ : Dl m) (c : List PyData) (H0 : Hp) : Prop := ∀ (σ : St) (H : Hp), DS K H σ δ c → Ls m H0 H → ts D σ H
section
variable {K : Frg} {m : Mo} {δ δ' : Dl m} {c c' : List PyData} {P P' : De m} {ta tb te : TE} {t : TT} {d e : PyData} {ds es : List PyData} {D : Ends} {H0 : Hp} {tu tv tw bd : TS}
theorem s_seq (h : S K tu { D with nx := tv D } δ c H0) : S K (tSeq tu tv) D δ c H0 := h
theorem s_nx (h : S K tv D δ c H0) : S K tNext { D with nx := tv D } δ c H0 := h
theorem s_asg {i : Nat} (h : Ev K te δ c P) (k : S K tNext D (δ.set i (some P)) c H0) : S K (tAsg te (gName i)) D δ c H0 := fun σ H s l =>
  h σ H _ s fun v H1 l1 p => k _ H1 ((s.mono l1).set i p) (l.trans l1.ex)
/-- name = e, then the rest -/
theorem q_asg {i : Nat} (h : Ev K te δ c P) (k : S K tv D (δ.set i (some P)) c H0) : S K (tSeq (tAsg te (gName i)) tv) D δ c H0 := s_seq (s_asg h (s_nx k))
theorem q_asgX {i : Nat} {α : Type} {ok : α → Prop} {F : α → De m} (h : Ev K te δ c (dEx ok F)) (k : ∀ x, ok x → S K tv D (δ.set i (some (F x))) c H0) : S K (tSeq (tAsg te (gName i)) tv) D δ c H0 := fun σ H s l =>
  h σ H _ s fun v H1 l1 ⟨x, hx, p⟩ => k x hx _ H1 ((s.mono l1).set i p) (l.trans l1.ex)
theorem q_asgI {i : Nat} {lo hi : Int} (h : Ev K te δ c (dIn lo hi)) (k : ∀ x, lo ≤ x → x < hi → S K tv D (δ.set i (some (Dd K (.int x)))) c H0) : S K (tSeq (tAsg te (gName i)) tv) D δ c H0 := fun σ H s l =>
  h σ H _ s fun v H1 l1 ⟨x, e, h1, h2⟩ => k x h1 h2 _ H1 ((s.mono l1).set i (P := Dd K (.int x)) (by subst e; exact .int x)) (l.trans l1.ex)
theorem s_ret (h : Ev K te δ c P) (k : ∀ v H, Ls m H0 H → WF m H → P.p v H → D.rt v H) : S K (tRet te) D δ c H0 := fun σ H s l => h σ H _ s fun v H1 l1 p => k v H1 (l.trans l1.ex) (l1.wf s.wf) p
theorem s_drop (h : Ev K te δ c P) (k : S K tNext D δ c H0) : S K (tDrop te) D δ c H0 := fun σ H s l => h σ H _ s fun v H1 l1 p => k _ H1 (s.mono l1) (l.trans l1.ex)
theorem q_drop (h : Ev K te δ c P) (k : S K tv D δ c H0) : S K (tSeq (tDrop te) tv) D δ c H0 := s_seq (s_drop h (s_nx k))
theorem s_ifT (h : EvT K t δ c true) (k : S K tu D δ c H0) : S K (tIfS t tu tw) D δ c H0 := fun σ H s l => h σ H _ s fun H1 l1 => by
  rw [if_pos rfl]
  exact k σ H1 (s.mono l1) (l.trans l1.ex)
theorem s_ifF (h : EvT K t δ c false) (k : S K tw D δ c H0) : S K (tIfS t tu tw) D δ c H0 := fun σ H s l => h σ H _ s fun H1 l1 => by
  rw [if_neg Bool.false_ne_true]
  exact k σ H1 (s.mono l1) (l.trans l1.ex)
theorem s_if {b : Bool} (h : EvT K t δ c b) (k1 : b = true → S K tu D δ c H0) (k2 : b = false → S K tw D δ c H0) : S K (tIfS t tu tw) D δ c H0 := by
  cases b with
  | true => exact s_ifT h (k1 rfl)
  | false => exact s_ifF h (k2 rfl)
/-- an if without else, then the rest -/
theorem q_ifT (h : EvT K t δ c true) (k : S K tu { D with nx := tv D } δ c H0) : S K (tSeq (tIfS t tu tw) tv) D δ c H0 := s_seq (s_ifT h k)
theorem q_ifF (h : EvT K t δ c false) (k : S K tv D δ c H0) : S K (tSeq (tIfS t tu tNext) tv) D δ c H0 := s_seq (s_ifF h (s_nx k))
theorem q_if {b : Bool} (h : EvT K t δ c b) (k1 : b = true → S K tu { D with nx := tv D } δ c H0) (k2 : b = false → S K tv D δ c H0) : S K (tSeq (tIfS t tu tNext) tv) D δ c H0 := s_seq (s_if h k1 fun e => s_nx (k2 e))
theorem s_sub (u : Sub δ δ') (k : S K tu D δ' c H0) : S K tu D δ c H0 := fun σ H s l => k σ H (s.sub u) l
/-- a, b = x, y -/
theorem s_par {i j : Nat} {tr : TA} (h : EvA K tr δ c [P, P']) (k : S K tNext D ((δ.set i (some P)).set j (some P')) c H0) : S K (tPar i j tr) D δ c H0 := fun σ H s l =>
  h σ H _ s fun vs H1 l1 ps => by
    cases ps with
    | cons h1 t =>
      cases t with
      | cons h2 t =>
        cases t
        exact ⟨_, _, rfl, k _ H1 (((s.mono l1).set i h1).set j h2) (l.trans l1.ex)⟩
theorem q_par {i j : Nat} {tr : TA} (h : EvA K tr δ c [P, P']) (k : S K tv D ((δ.set i (some P)).set j (some P')) c H0) : S K (tSeq (tPar i j tr) tv) D δ c H0 := s_seq (s_par h (s_nx k))
/-- a op= e -/
theorem s_aug {i : Nat} {f : Int → Int → Int} {a b : Int} (hx : δ[i]? = some (some (Dd K (.int a)))) (h : Ev K te δ c (Dd K (.int b))) (k : S K tNext D (δ.set i (some (Dd K (.int (f a b))))) c H0) : S K (tAug i te (ipI f)) D δ c H0 := fun σ H s l => by
  obtain ⟨v, e, p⟩ := s.at_ i _ hx
  cases p
  refine ⟨_, e, h σ H _ s fun w H1 l1 p1 => ?_⟩
  cases p1
  exact ⟨a, b, rfl, rfl, k _ H1 ((s.mono l1).set i (.int _)) (l.trans l1.ex)⟩
theorem q_aug {i : Nat} {f : Int → Int → Int} {a b : Int} (hx : δ[i]? = some (some (Dd K (.int a)))) (h : Ev K te δ c (Dd K (.int b))) (k : S K tv D (δ.set i (some (Dd K (.int (f a b))))) c H0) : S K (tSeq (tAug i te (ipI f)) tv) D δ c H0 := s_seq (s_aug hx h (s_nx k))

theorem sub_nil : Sub ([] : Dl m) [] := trivial
theorem sub_n {x : Option (De m)} {xs ys : Dl m} (h : Sub xs ys) : Sub (x :: xs) (none :: ys) := ⟨trivial, h⟩
theorem sub_s {P : De m} {xs ys : Dl m} (h : Sub xs ys) : Sub (some P :: xs) (some P :: ys) := ⟨fun _ _ h => h, h⟩
/-! ### loops -/
theorem s_endE {J : Dl m} {H1 : Hp} {bk ct : St → Hp → Prop} {rt : VK} (u : Sub δ J) : S K tNext { nx := fun σ H => DS K H σ J c ∧ Ls m H1 H, rt := rt, bk := bk, ct := ct } δ c H1 := fun σ H s l => ⟨s.sub u, l⟩
/-- what a turn is to reach -/
def NX (K : Frg) {m : Mo} {α : Type} (inv : Nat → α → Prop) (J : α → Dl m) (C : α → List PyData) (H1 : Hp) (i : Nat) : St → Hp → Prop := fun σ H => ∃ a, inv i a ∧ DS K H σ (J a) (C a) ∧ Ls m H1 H
theorem s_end {α : Type} {inv : Nat → α → Prop} {J : α → Dl m} {C : α → List PyData} {H1 : Hp} {i : Nat} {bk ct : St → Hp → Prop} {rt : VK} (a : α) (hi : inv i a) (hc : C a = c) (u : Sub δ (J a)) :
    S K tNext { nx := NX K inv J C H1 i, rt := rt, bk := bk, ct := ct } δ c H1 := fun σ H s l => by
  refine ⟨a, hi, ?_, l⟩
  rw [hc]
  exact s.sub u
theorem s_forT {α : Type} {j : Nat} {tl : TE} (inv : Nat → α → Prop) (J : α → Dl m) (C : α → List PyData) (a0 : α) (h : Ev K tl δ c (Dd K (.tuple ds))) (h0 : inv 0 a0) (hc0 : C a0 = c) (u : Sub δ (J a0))
    (hs : ∀ i a d H1, ds[i]? = some d → inv i a → (∀ H, Ls m H1 H → Ls m H0 H) → S K bd { nx := NX K inv J C H1 (i + 1), rt := D.rt, bk := D.nx, ct := NX K inv J C H1 (i + 1) } ((J a).set j (some (Dd K d))) (C a) H1)
    (hd : ∀ a, inv ds.length a → S K tNext D (J a) (C a) H0) : S K (tFor (iTup K tl) (gName j) bd) D δ c H0 := fun σ H s l =>
  h σ H _ s fun v H1 l1 p => by
    cases p with
    | @tup a xs _ hq hall =>
      have l2 : Ls m H0 H1 := l.trans l1.ex
      refine ⟨a, rfl, ⟨xs, seqT del_sub hq⟩, for_tup (K := K) (a := a) (xs := xs) (NX K inv J C H1) ⟨a0, h0, ?_, Same.refl _⟩ (fun i σ' H' _ ⟨_, _, _, l3⟩ => seqT del_sub (seqT l3 hq)) (fun i x σ' H' hx ⟨b, hb, s', l3⟩ => ?_) (fun σ' H' ⟨b, hb, s', l3⟩ => ?_)⟩
      · rw [hc0]
        exact (s.mono l1).sub u
      · obtain ⟨d, hd', hp⟩ := hall.get' hx
        exact hs i b d H1 hd' hb (fun _ l4 => l2.trans l4) _ H' (s'.set j (Dp.mono l3 _ _ hp)) l3
      · rw [hall.length] at hb
        exact hd b hb σ' H' s' (l2.trans l3)
theorem s_forL {α : Type} {j : Nat} {tl : TE} (inv : Nat → α → Prop) (J : α → Dl m) (C : α → List PyData) (a0 : α) (h : Ev K tl δ c (Dd K (.list ds))) (h0 : inv 0 a0) (hc0 : C a0 = c) (u : Sub δ (J a0))
    (hs : ∀ i a d H1, ds[i]? = some d → inv i a → (∀ H, Ls m H1 H → Ls m H0 H) → S K bd { nx := NX K inv J C H1 (i + 1), rt := D.rt, bk := D.nx, ct := NX K inv J C H1 (i + 1) } ((J a).set j (some (Dd K d))) (C a) H1)
    (hd : ∀ a, inv ds.length a → S K tNext D (J a) (C a) H0) : S K (tFor (iList K tl) (gName j) bd) D δ c H0 := fun σ H s l =>
  h σ H _ s fun v H1 l1 p => by
    cases p with
    | @lst a xs _ hq hall =>
      have l2 : Ls m H0 H1 := l.trans l1.ex
      refine ⟨a, rfl, ⟨xs, Same.seq del_sub hq⟩, for_list (K := K) (a := a) (xs := xs) (NX K inv J C H1) ⟨a0, h0, ?_, Same.refl _⟩ (fun i σ' H' _ ⟨_, _, _, l3⟩ => Same.seq del_sub (Same.seq l3 hq)) (fun i x σ' H' hx ⟨b, hb, s', l3⟩ => ?_) (fun σ' H' ⟨b, hb, s', l3⟩ => ?_)⟩
      · rw [hc0]
        exact (s.mono l1).sub u
      · obtain ⟨d, hd', hp⟩ := hall.get' hx
        exact hs i b d H1 hd' hb (fun _ l4 => l2.trans l4) _ H' (s'.set j (Dp.mono l3 _ _ hp)) l3
      · rw [hall.length] at hb
        exact hd b hb σ' H' s' (l2.trans l3)
/-- for i, x in enumerate(list), nothing kept between turns -/
theorem s_forE {j k : Nat} {tr : TA} (J : Dl m) (h : EvA K tr δ c [Dd K (.list ds)]) (u : Sub δ J)
    (hs : ∀ (i : Nat) d H1, ds[i]? = some d → S K bd { nx := fun σ H => DS K H σ J c ∧ Ls m H1 H, rt := D.rt, bk := D.nx, ct := fun σ H => DS K H σ J c ∧ Ls m H1 H } ((J.set j (some (Dd K (.int i)))).set k (some (Dd K d))) c H1)
    (hd : S K tNext D J c H0) : S K (tFor (iEnum K tr) (gTup K 2 (gCons (gName j) (gCons (gName k) gNil))) bd) D δ c H0 := fun σ H s l =>
  h σ H _ s fun vs H1 l1 ps => by
    cases ps with
    | cons p t =>
      cases t
      cases p with
      | @lst a xs _ hq hall =>
        have l2 : Ls m H0 H1 := l.trans l1.ex
        refine ⟨a, xs, rfl, Same.seq del_sub hq, fun i n σ H => n = xs.length - i ∧ i ≤ xs.length ∧ DS K H σ J c ∧ Ls m H1 H, ⟨xs.length, by simp, Nat.zero_le _, (s.mono l1).sub u, Same.refl _⟩, ?_⟩
        rintro i n σ' H' ⟨rfl, hi, s', l3⟩
        have q : SqL K H' a xs := Same.seq del_sub (Same.seq l3 hq)
        by_cases hlt : i < xs.length
        · refine .inr ⟨?_, fun σ H => DS K H σ J c ∧ Ls m H1 H, fun σ2 H2 ⟨s2, l4⟩ => ⟨xs.length - (i + 1), by omega, rfl, hlt, s2, l4⟩, ?_⟩
          · exact ⟨xs, xs[i], q, by simp [hlt]⟩
          · intro x H2 y
            obtain ⟨T, z, rfl, hT, rfl, hz⟩ := y
            have hx := hz xs q
            obtain ⟨d, hd', hp⟩ := hall.get' hx
            have l5 := Le.new (u := .tup [.int (i : Nat), z]) s'.wf hT
            refine ⟨T, _, rfl, .inl (.inl upd_same), rfl, _, _, rfl, _, _, rfl, rfl, ?_⟩
            exact hs i d H1 hd' _ _ (((s'.mono l5).set j (P := Dd K (.int i)) (.int _)).set k (Dp.mono (l3.trans l5.ex) _ _ hp)) (l3.trans l5.ex)
        · have e : i = xs.length := by omega
          subst e
          exact .inl ⟨⟨xs, q, Nat.le_refl _⟩, hd σ' H' s' (l2.trans l3)⟩
end
end Cl

/-! part Fc -/
namespace Cl
open PySem L2

section
variable {K : Frg} {m : Mo} {H H1 H2 H4 H' : Hp} {p : Addr} {u : HO}
/-- an object that was not there may change -/
theorem Le.mut (l : Le m H1 H4) (w : WF m H1) (h : H1 p = none) : Le m H1 (upd H4 p u) := by
  refine ⟨fun b v e => ?_, ?_⟩
  · have e1 := l.ex b v e
    have ne : b ≠ p := fun z => by
      subst z
      rw [del_sub _ _ e] at h
      cases h
    unfold del at e1 ⊢
    split at e1
    · cases e1
    · rename_i hb
      rw [if_neg hb, upd_ne ne]
      exact e1
  · cases m with
    | non => trivial
    | pool a =>
      have ne : a ≠ p := fun z => by
        obtain ⟨x, y, q⟩ := w
        subst z
        rw [q] at h
        cases h
      intro q
      obtain ⟨x, y, q⟩ := l.kp q
      exact ⟨x, y, by rw [upd_ne ne]; exact q⟩
    | lst a =>
      have ne : a ≠ p := fun z => by
        obtain ⟨x, q⟩ := w
        subst z
        rw [q] at h
        cases h
      show upd H4 p u a = H1 a
      rw [upd_ne ne]
      exact l.kp
theorem rd_mut {ys zs : List V} (h : H p = some (.lst ys)) {a : Addr} {xs : List V} (r : Rd (del m H) a (.tup xs)) : Rd (del m (upd H p (.lst zs))) a (.tup xs) := by
  have ne : a ≠ p := fun z => by
    subst z
    rcases r with r | ⟨o, r⟩ <;> (have := del_sub _ _ r; rw [h] at this; cases this)
  have e : del m (upd H p (.lst zs)) a = del m H a := by
    unfold del
    rw [upd_ne ne]
  unfold Rd
  rw [e]
  exact r
def wipeD {m : Mo} (δ : Dl m) (j : Nat) : Dl m := δ.set j none
theorem DS.wipe {σ : St} {δ : Dl m} {c : List PyData} (s : DS K H σ δ c) (j : Nat) : DS K H (wipe σ [j]) (δ.set j none) c where
  wf := s.wf
  len := by
    rw [wipe_length, List.length_set, s.len]
  at_ := fun i P e => by
    by_cases ij : j = i
    · subst ij
      by_cases hl : j < δ.length
      · rw [List.getElem?_set_self hl] at e
        cases e
      · rw [List.getElem?_eq_none (by rw [List.length_set]; omega)] at e
        cases e
    · rw [List.getElem?_set_ne ij] at e
      obtain ⟨v, e1, q⟩ := s.at_ i P e
      refine ⟨v, ?_, q⟩
      show (σ.set j none)[i]? = _
      rw [List.getElem?_set_ne ij]
      exact e1
  ct := s.ct
end

section
variable {K : Frg} {m : Mo} {δ : Dl m} {c : List PyData} {te tl : TE} {ds es : List PyData}
def okEs (n : Nat) (ok : Nat → PyData → Prop) (es : List PyData) : Prop := es.length = n ∧ ∀ (i : Nat) e, es[i]? = some e → ok i e
/-- [e for x in J]: what J yields at the turns, n of them -/
theorem lc_go {σ : St} {H1 : Hp} {J : It} {n j : Nat} {its : Nat → PyData} {ok : Nat → PyData → Prop} {Q : VK} (s : DS K H1 σ δ c) (hn : n ≤ 1000000)
    (go : ∀ i H, Le m H1 H → i < n → J.go i H) (stop : ∀ H, Le m H1 H → J.stop n H) (yl : ∀ i H x H', Le m H1 H → i < n → J.yld i H x H' → H' = H ∧ Dp K (del m H) x (its i))
    (hl : ∀ i e, ok i e → LF e = true) (he : ∀ i, i < n → Ev K te ((δ.set j none).set j (some (Dd K (its i)))) c (dEx (ok i) (Dd K)))
    (q : ∀ v H', Le m H1 H' → (dEx (m := m) (okEs n ok) (fun es => Dd K (.list es))).p v H' → Q v H') :
    ∀ Dd', H1 Dd' = none → ∃ W : Nat → Nat → Hp → Prop, (∃ m, W 0 m (upd H1 Dd' (.lst []))) ∧ ∀ i m H, W i m H →
      (J.stop i H ∧ Q (.ref Dd') H) ∨ (J.go i H ∧ ∃ Nx : Hp → Prop, (∀ H', Nx H' → ∃ m', m' < m ∧ W (i + 1) m' H') ∧ ∀ x H', J.yld i H x H' → gName j x (wipe σ [j]) H' fun σ2 H2 => wipe σ2 [j] = wipe σ [j] ∧ tYes σ2 H2 fun b H3 =>
        if b = true then te σ2 H3 fun y H4 => ∃ acc, H4 Dd' = some (.lst acc) ∧ acc.length < sizeLine ∧ Nx (upd H4 Dd' (.lst (acc ++ [y]))) else Nx H3) := by
  intro p hp
  have w1 := s.wf
  let Pv : Nat → Hp → Prop := fun i H => i ≤ n ∧ Le m H1 H ∧ ∃ acc es, H p = some (.lst acc) ∧ DpAll K (del m H) acc es ∧ okEs i ok es
  refine ⟨fun i k H => k = n - i ∧ Pv i H, ⟨n, by simp, Nat.zero_le _, Le.new w1 hp, [], [], upd_same, .nil, rfl, fun i e h => by simp at h⟩, ?_⟩
  rintro i k H ⟨rfl, hi, l1, acc, es, hacc, hall, hes⟩
  by_cases hlt : i < n
  · refine .inr ⟨go i H l1 hlt, Pv (i + 1), fun H' h' => ⟨n - (i + 1), by omega, rfl, h'⟩, fun x H' y => ?_⟩
    obtain ⟨rfl, hx⟩ := yl i H x H' l1 hlt y
    show wipe ((wipe σ [j]).set j (some x)) [j] = wipe σ [j] ∧ (if true = true then te ((wipe σ [j]).set j (some x)) H' (fun y H4 => ∃ acc, H4 p = some (.lst acc) ∧ acc.length < sizeLine ∧ Pv (i + 1) (upd H4 p (.lst (acc ++ [y])))) else Pv (i + 1) H')
    refine ⟨by simp [wipe], ?_⟩
    rw [if_pos rfl]
    refine he i hlt _ H' _ (((s.mono l1).wipe j).set j hx) fun y H4 l4 ⟨e, hok, hy⟩ => ?_
    have wp : some p ≠ m.ad := w1.ne hp
    have h4 : H4 p = some (.lst acc) := del_sub _ _ (l4.ex p _ (by rw [del_ne wp]; exact hacc))
    refine ⟨acc, h4, ?_, hlt, (l1.trans l4).mut w1 hp, acc ++ [y], es ++ [e], upd_same, ?_, ?_⟩
    · have e1 := hall.length
      have e2 := hes.1
      have : acc.length < 1000000 := by omega
      exact Nat.lt_of_lt_of_le this (by decide)
    · have hall4 := Dp.monos l4.ex _ _ hall
      refine DpAll.append (Dp.tupss (fun a xs r => rd_mut h4 r) _ _ ?_ hall4) (.cons (Dp.tups (fun a xs r => rd_mut h4 r) _ _ (hl i e hok) hy) .nil)
      rw [lfs_iff]
      intro d hd
      obtain ⟨k, hk⟩ := List.getElem?_of_mem hd
      exact hl k d (hes.2 k d hk)
    · refine ⟨by rw [List.length_append, hes.1]; rfl, fun k d hk => ?_⟩
      by_cases hkl : k < es.length
      · rw [List.getElem?_append_left hkl] at hk
        exact hes.2 k d hk
      · rw [List.getElem?_append_right (by omega)] at hk
        have : k - es.length = 0 := by
          have := (List.getElem?_eq_some_iff.mp hk).1
          simp at this
          omega
        rw [this] at hk
        simp at hk
        subst hk
        have e2 : k = i := by have := hes.1; omega
        subst e2
        exact hok
  · have e : i = n := by omega
    subst e
    exact .inl ⟨stop H l1, q _ H l1 ⟨es, hes, .lst (.inl (.inl (by rw [del_ne (w1.ne hp)]; exact hacc))) hall⟩⟩
theorem ev_lcTX {j : Nat} {ok : Nat → PyData → Prop} (h : Ev K tl δ c (Dd K (.tuple ds))) (hn : ds.length ≤ 1000000) (hl : ∀ i e, ok i e → LF e = true)
    (he : ∀ (i : Nat) (d : PyData), ds[i]? = some d → Ev K te ((δ.set j none).set j (some (Dd K d))) c (dEx (ok i) (Dd K))) : Ev K (tLc (iTup K tl) (gName j) tYes te [j]) δ c (dEx (okEs ds.length ok) fun es => Dd K (.list es)) := fun σ H Q s q =>
  h σ H _ s fun v H1 l1 p => by
    cases p with
    | @tup a xs _ hq hall =>
      refine ⟨a, rfl, ⟨xs, seqT del_sub hq⟩, lc_go (its := fun i => ds.getD i .none) (s.mono l1) hn (fun i H l hi => ?_) (fun H l => ?_) (fun i H x H' l hi y => ?_) hl (fun i hi => ?_) fun v H' l p => q v H' (l1.trans l) p⟩
      · exact ⟨xs, xs[i]'(by rw [hall.length]; exact hi), seqT del_sub (seqT l.ex hq), by simp⟩
      · exact ⟨xs, seqT del_sub (seqT l.ex hq), by rw [hall.length]; exact Nat.le_refl _⟩
      · obtain ⟨e, y⟩ := y
        refine ⟨e, ?_⟩
        obtain ⟨d, hd, hp⟩ := hall.get' (y xs (seqT del_sub (seqT l.ex hq)))
        show Dp K (del m H) x (ds.getD i .none)
        rw [List.getD_eq_getElem?_getD, hd]
        exact Dp.mono l.ex _ _ hp
      · have e : ds[i]? = some (ds.getD i .none) := by rw [List.getD_eq_getElem?_getD, List.getElem?_eq_getElem hi]; rfl
        exact he i _ e
theorem ev_lcLX {j : Nat} {ok : Nat → PyData → Prop} (h : Ev K tl δ c (Dd K (.list ds))) (hn : ds.length ≤ 1000000) (hl : ∀ i e, ok i e → LF e = true)
    (he : ∀ (i : Nat) (d : PyData), ds[i]? = some d → Ev K te ((δ.set j none).set j (some (Dd K d))) c (dEx (ok i) (Dd K))) : Ev K (tLc (iList K tl) (gName j) tYes te [j]) δ c (dEx (okEs ds.length ok) fun es => Dd K (.list es)) := fun σ H Q s q =>
  h σ H _ s fun v H1 l1 p => by
    cases p with
    | @lst a xs _ hq hall =>
      refine ⟨a, rfl, ⟨xs, Same.seq del_sub hq⟩, lc_go (its := fun i => ds.getD i .none) (s.mono l1) hn (fun i H l hi => ?_) (fun H l => ?_) (fun i H x H' l hi y => ?_) hl (fun i hi => ?_) fun v H' l p => q v H' (l1.trans l) p⟩
      · exact ⟨xs, xs[i]'(by rw [hall.length]; exact hi), Same.seq del_sub (Same.seq l.ex hq), by simp⟩
      · exact ⟨xs, Same.seq del_sub (Same.seq l.ex hq), by rw [hall.length]; exact Nat.le_refl _⟩
      · obtain ⟨e, y⟩ := y
        refine ⟨e, ?_⟩
        obtain ⟨d, hd, hp⟩ := hall.get' (y xs (Same.seq del_sub (Same.seq l.ex hq)))
        show Dp K (del m H) x (ds.getD i .none)
        rw [List.getD_eq_getElem?_getD, hd]
        exact Dp.mono l.ex _ _ hp
      · have e : ds[i]? = some (ds.getD i .none) := by rw [List.getD_eq_getElem?_getD, List.getElem?_eq_getElem hi]; rfl
        exact he i _ e
theorem ev_lcRX {j : Nat} {ok : Nat → PyData → Prop} {tr : TA} {lo hi : Int} (h : EvA K tr δ c [dIn lo hi]) (hn : hi ≤ 100000 ∧ 0 ≤ lo) (hl : ∀ i e, ok i e → LF e = true)
    (he : ∀ (i : Nat), Ev K te ((δ.set j none).set j (some (Dd K (.int i)))) c (dEx (ok i) (Dd K))) : Ev K (tLc (iRng1 tr) (gName j) tYes te [j]) δ c (dEx (fun p : Nat × List PyData => (p.1 : Int) < hi ∧ okEs p.1 ok p.2) fun p => Dd K (.list p.2)) := fun σ H Q s q =>
  h σ H _ s fun vs H1 l1 ps => by
    cases ps with
    | cons p t =>
      cases t
      obtain ⟨n, rfl, h1, h2⟩ := p
      refine ⟨n, rfl, by omega, by omega, lc_go (n := n.toNat) (its := fun i => .int i) (s.mono l1) (by omega) (fun i H l hi => hi) (fun H l => Nat.le_refl _) (fun i H x H' l hi y => ?_) hl (fun i hi => he i) fun v H' l ⟨es, he, p⟩ => q v H' (l1.trans l) ⟨(n.toNat, es), ⟨by omega, he⟩, p⟩⟩
      obtain ⟨e, rfl⟩ := y
      refine ⟨e, ?_⟩
      rw [Int.zero_add]
      exact .int _
theorem okEs_one {n : Nat} {es fs : List PyData} (hf : fs.length = n) (h : okEs n (fun i e => fs[i]? = some e) es) : es = fs := by
  apply List.ext_getElem?
  intro i
  cases q : es[i]? with
  | none =>
    have : es.length ≤ i := List.getElem?_eq_none_iff.mp q
    exact (List.getElem?_eq_none_iff.mpr (by rw [hf, ← h.1]; exact this)).symm
  | some e => exact (h.2 i e q).symm
theorem ev_lcT {j : Nat} (h : Ev K tl δ c (Dd K (.tuple ds))) (hn : ds.length ≤ 1000000) (hl : LFs es = true) (hes : es.length = ds.length)
    (he : ∀ (i : Nat) (d e : PyData), ds[i]? = some d → es[i]? = some e → Ev K te ((δ.set j none).set j (some (Dd K d))) c (Dd K e)) : Ev K (tLc (iTup K tl) (gName j) tYes te [j]) δ c (Dd K (.list es)) := by
  refine (ev_lcTX (ok := fun i e => es[i]? = some e) h hn (fun i e h => (lfs_iff es).mp hl e (List.mem_of_getElem? h)) fun i d hd => ?_).imp fun v H ⟨fs, h1, h2⟩ => ?_
  · have hi : i < es.length := by rw [hes]; exact (List.getElem?_eq_some_iff.mp hd).1
    exact (he i d es[i] hd (List.getElem?_eq_getElem hi)).imp fun v H p => ⟨_, List.getElem?_eq_getElem hi, p⟩
  · rw [okEs_one hes h1] at h2
    exact h2
theorem ev_lcL {j : Nat} (h : Ev K tl δ c (Dd K (.list ds))) (hn : ds.length ≤ 1000000) (hl : LFs es = true) (hes : es.length = ds.length)
    (he : ∀ (i : Nat) (d e : PyData), ds[i]? = some d → es[i]? = some e → Ev K te ((δ.set j none).set j (some (Dd K d))) c (Dd K e)) : Ev K (tLc (iList K tl) (gName j) tYes te [j]) δ c (Dd K (.list es)) := by
  refine (ev_lcLX (ok := fun i e => es[i]? = some e) h hn (fun i e h => (lfs_iff es).mp hl e (List.mem_of_getElem? h)) fun i d hd => ?_).imp fun v H ⟨fs, h1, h2⟩ => ?_
  · have hi : i < es.length := by rw [hes]; exact (List.getElem?_eq_some_iff.mp hd).1
    exact (he i d es[i] hd (List.getElem?_eq_getElem hi)).imp fun v H p => ⟨_, List.getElem?_eq_getElem hi, p⟩
  · rw [okEs_one hes h1] at h2
    exact h2
end
end Cl

/-! part Ru -/
namespace Cl
open PySem L2

/-! ### *rest, last = a tuple -/
section
variable {prog : Program} {w : World} {A : Around} {E : Value → Shared → Prop} {s : Shared}
theorem unpack_star {t : Addr} {items : Array Value} {Q : List Value → Shared → Prop} (hh : A.handled = none) (ht : PyProof.Rows.IsTup s.heap t items) (hn : 1 ≤ items.size) (hz : items.size ≤ sizeLine)
    (hQ : ∀ (h' : Heap) (tk : Nat), (∀ b o, s.heap.get? b = some o → h'.get? b = some o) →
      Q ([Value.ref h'.objs.size] ++ items.toList.drop (items.size - 1)) { s with heap := h'.push { cls := .type "list", data := .seq (items.toList.take (items.size - 1)).toArray }, toks := tk }) :
    wpAny (model prog w) A (unpackItems (.ref t) 2 (some 0)) Q E s := by
  have hlt : t ≠ s.heap.objs.size := by obtain ⟨o, ho, _⟩ := ht; exact Nat.ne_of_lt (Heap.lt_size ho)
  unfold unpackItems
  refine wpAny_bind ?_
  unfold notIterableAtAll
  refine wpAny_bind (wpAny_specialOf ht.typeIs PyProof.Rows.slot_tuple_iter.lookup ?_)
  refine wpAny_pure ?_
  simp only [Bool.false_eq_true, if_false]
  refine wpAny_bind (wpAny_holding (PyProof.Rows.iter_tuple ht ?_))
  refine wpAny_bind (wpAny_holding ?_)
  show wpAny _ _ (pure []) _ _ _
  refine wpAny_pure ?_
  rw [if_neg (by decide)]
  refine wpAny_bind (wpAny_holding ?_)
  have hit : (s.heap.push { cls := .type "tuple_iterator", data := .fields #[.ref t, .int 0 0] }).IsTupleIter s.heap.objs.size t 0 := ⟨_, Heap.get?_push_size _ rfl, rfl, rfl⟩
  obtain ⟨o, ho, hc, n, hd⟩ := id ht
  have hit2 : (s.heap.push { cls := .type "tuple_iterator", data := .fields #[.ref t, .int 0 0] }).IsTuple t items := ⟨o, Heap.get?_push_of_some _ ho, hc, n, hd⟩
  have W := (Walks.tuple (prog := prog) (w := w) (A := A.in1) hh s.heap.objs.size t hlt items).toS
  refine wpAny_collect_iter (T := "tuple_iterator") (.inr (.inr (.inr rfl))) W (fun i s' st => st.1.typeIs) ⟨hit, hit2⟩ (fun b hb => ?_) (by simp) (fun s' acc hm hacc => ?_) hz
  · show b < (s.heap.push _).objs.size
    rw [Heap.size_push]
    simp only [List.mem_cons, List.not_mem_nil, or_false] at hb
    rcases hb with hb | hb
    · rw [hb]
      exact Nat.lt_succ_self _
    · rw [hb]
      exact Nat.lt_succ_of_lt (Heap.lt_size ho)
  · have eacc : acc.toList = items.toList := by
      apply List.ext_getElem?
      intro i
      cases e : acc.toList[i]? with
      | none =>
        have h1 : acc.toList.length ≤ i := List.getElem?_eq_none_iff.mp e
        refine (List.getElem?_eq_none_iff.mpr ?_).symm
        have := hacc.1
        simp at h1 ⊢
        omega
      | some v =>
        have := hacc.2 i v (by simpa using e)
        simpa using this.symm
    rw [eacc, Moved.eq_with hm]
    have hnl : ¬ items.toList.length < 2 - 1 - 0 := Nat.not_lt.mpr (by simpa using hn)
    rw [if_neg hnl]
    refine wpAny_bind (PySem.wpAny_newList (M := model prog w) ?_ ?_)
    · refine wpAny_pure ?_
      have := hQ s'.heap s'.toks (fun b o e => hm.heap b o (fun hb => absurd (Heap.lt_size e) (by rw [List.mem_singleton.mp hb]; exact Nat.lt_irrefl _)) (Heap.get?_push_of_some _ e))
      simpa using this
    · simp
      omega
end
section
variable {X : Cx} {pos pos' : Pos} {e : Expr} {es : List Expr} {t : TG} {u us : TGs}
theorem pgs_star (h1 : PG X e t) (h2 : PGs X es u) (hs : (assignEach (.Starred e pos :: es) X.env).map (·.2) = assign e X.env :: (assignEach es X.env).map (·.2) := by rfl) : PGs X (.Starred e pos :: es) (gCons t u) := by
  refine ⟨fun pins s σ H vs us Q I r h => ?_⟩
  obtain ⟨v, vr, e1, h⟩ := h
  subst e1
  cases r with
  | cons r rr =>
    rw [hs]
    refine PyProof.Rows.assignInOrder_cons (thn (h1.run pins s σ H _ _ _ I r h) fun _ s1 ⟨σ1, H1, I1, q1⟩ => ?_)
    exact h2.run pins s1 σ1 H1 _ _ Q I1 rr q1
def gStar (K : Frg) (t : TGs) : TG := fun v σ H Q => ∃ a xs y, v = .ref a ∧ SqT K H a (xs ++ [y]) ∧ ∀ l, H l = none → t [.ref l, y] σ (upd H l (.lst xs)) Q
theorem pg_star {k : Nat} (hc : X.calm = true) (h : PGs X es us) (hn : (assignEach es X.env).length = 2 := by rfl) (hst : (assignEach es X.env).findIdx? (·.1) = some 0 := by rfl) : PG X (.Tuple es k pos) (gStar X.K us) := by
  refine ⟨fun pins s σ H v u Q I r hw => ?_⟩
  obtain ⟨a, xs, y, e1, hq, hw⟩ := hw
  subst e1
  cases r
  obtain ⟨its, rv, ht, hz⟩ := I.tuple hq
  have hlen := rv.length
  rw [List.length_append, List.length_singleton] at hlen hz
  rw [PyProof.Rows.assign_Tuple]
  refine wpAny_bind (wpAny_standAt ?_)
  unfold unpack
  rw [hn, hst]
  refine wpAny_bind (wpAny_holding (unpack_star (I.ok.hd hc) ht (by simp; omega) (by simp; omega) fun h' tk hk => ?_))
  have I1 : Inv X pins σ H { s with heap := h', toks := tk } := I.kept hk
  have esz : its.toArray.size - 1 = xs.length := by simp; omega
  have r1 := rv.take xs.length
  have r2 := rv.drop xs.length
  rw [List.take_left' rfl] at r1
  rw [List.drop_left' rfl] at r2
  have I2 := I1.laid (a := h'.objs.size) (o := .lst xs) (t' := tk) (h' := h'.push { cls := .type "list", data := .seq (its.toArray.toList.take (its.toArray.size - 1)).toArray }) (fun b o q => Heap.get?_push_of_some _ q) (Nat.le_refl _)
    ⟨by omega, its.take xs.length, 0, r1, by rw [esz]; exact Heap.get?_push_size _ rfl⟩
  refine h.run pins _ σ _ _ _ Q I2 ?_ (hw _ (I1.hok.fresh (Nat.le_refl _)))
  rw [esz]
  exact .cons rfl r2
end

/-! ### own operators -/
section
variable {X : Cx} {CX : CXT} {k : Nat} {f C : Addr} {fd : FuncData} {ps : List Str} {sp : Sp} {E : XK}
theorem rel_back {v : V} {u : Value} {Q : Value → Shared → Prop} {s : Shared} (r : RelV v u) (q : Q u s) : PySem.W.CmpBack Q u s := by
  cases v with
  | non => cases r; exact q
  | bl b => cases r; exact q
  | int i => obtain ⟨t, rfl⟩ := r; exact q
  | str i => obtain ⟨t, rfl⟩ := r; exact q
  | byt i => obtain ⟨t, rfl⟩ := r; exact q
  | flt i => obtain ⟨t, rfl⟩ := r; exact q
  | ref a => cases r; exact q
  | ty n => cases r; exact q
/-- x + y, both of the class at C with its own __add__ -/
def rOwn (C : Addr) (sp : Sp) (E : XK) : R2 := fun x y H Q => ∃ a b dx dy fs gs, x = .ref a ∧ y = .ref b ∧ H a = some (.ins C dx fs) ∧ H b = some (.ins C dy gs) ∧ sp [.ref a, .ref b] H Q E
theorem op_own {op : Operator} (F : FnOk X.prog X.w X.K X.mg X.base CX k f fd ps sp) (hr : Room k X.A) (hb : Binds X.K fd ps []) (hx : Passes CX X E) (hc : PySem.W.selfFirst X.K C = true)
    (hs : PySem.W.findIn X.K (.ref C) (PySem.dunder op.info.2) = some (some (.ref f))) (hf : PySem.W.isFn X.K (.ref f) = true) : OpR X (binaryOp op) (rOwn C sp E) := by
  intro pins s σ H x y v u Q I rx ry h
  obtain ⟨a, b, dx, dy, fs, gs, rfl, rfl, ha, hb', q⟩ := h
  cases rx
  cases ry
  obtain ⟨mA, J, _⟩ := ins_get I.hok ha
  obtain ⟨mB, J', _⟩ := ins_get I.hok hb'
  obtain ⟨od, J, _⟩ := J.look
  obtain ⟨od', J', _⟩ := J'.look
  obtain ⟨m, hF⟩ := I.fr
  refine PySem.W.binop_K hF I.ok.mod.kin J J'.type hc hs hf ?_
  exact thn (run_fn (vs := [.ref a, .ref b]) (dvs := []) (ds := []) F hr hb .nil hx I (.cons rfl (.cons rfl .nil)) q) fun r s' ⟨z, H', I', rz, q'⟩ => rel_back rz ⟨z, H', I', rz, q'⟩
/-- x * i, an int -/
def rOwnI (C : Addr) (sp : Sp) (E : XK) : R2 := fun x y H Q => ∃ a i dx fs, x = .ref a ∧ y = .int i ∧ H a = some (.ins C dx fs) ∧ sp [.ref a, .int i] H Q E
theorem op_ownI {op : Operator} {fo ro rc : Option Value} (F : FnOk X.prog X.w X.K X.mg X.base CX k f fd ps sp) (hr : Room k X.A) (hb : Binds X.K fd ps []) (hx : Passes CX X E) (hc : PySem.W.selfFirst X.K C = true)
    (hs : PySem.W.findIn X.K (.ref C) (PySem.dunder op.info.2) = some (some (.ref f))) (hf : PySem.W.isFn X.K (.ref f) = true) (hrr : PySem.W.findIn X.K (.ref C) (dunderR op.info.2) = some rc) (hp : rc = none ∨ ∃ g : Addr, rc = some (.ref g))
    (h1 : PySem.W.findIn X.K (.type "int") (PySem.dunder op.info.2) = some fo) (h2 : PySem.W.findIn X.K (.type "int") (dunderR op.info.2) = some ro) (hsub : PySem.W.subIn X.K (.type "int") (.ref C) = some false) : OpR X (binaryOp op) (rOwnI C sp E) := by
  intro pins s σ H x y v u Q I rx ry h
  obtain ⟨a, i, dx, fs, rfl, rfl, ha, q⟩ := h
  cases rx
  obtain ⟨t, rfl⟩ := ry
  obtain ⟨mA, J, _⟩ := ins_get I.hok ha
  obtain ⟨od, J, _⟩ := J.look
  obtain ⟨m, hF⟩ := I.fr
  refine PySem.W.ksp_binT (T := "int") hF I.ok.mod.kin J rfl hc hs hf hrr hp h1 h2 hsub ?_
  exact thn (run_fn (vs := [.ref a, .int i]) (us := [.ref a, .int i t]) (dvs := []) (ds := []) F hr hb .nil hx I (.cons rfl (.cons ⟨t, rfl⟩ .nil)) q) fun r s' ⟨z, H', I', rz, q'⟩ => rel_back rz ⟨z, H', I', rz, q'⟩
/-- x == y by the class's own __eq__ -/
theorem op_ownEq (F : FnOk X.prog X.w X.K X.mg X.base CX k f fd ps sp) (hr : Room k X.A) (hb : Binds X.K fd ps []) (hx : Passes CX X E)
    (hs : PySem.W.findIn X.K (.ref C) "__eq__" = some (some (.ref f))) (hf : PySem.W.isFn X.K (.ref f) = true) : OpR X (compareOp .Eq) (rOwn C sp E) := by
  intro pins s σ H x y v u Q I rx ry h
  obtain ⟨a, b, dx, dy, fs, gs, rfl, rfl, ha, hb', q⟩ := h
  cases rx
  cases ry
  obtain ⟨mA, J, _⟩ := ins_get I.hok ha
  obtain ⟨mB, J', _⟩ := ins_get I.hok hb'
  obtain ⟨od, J, _⟩ := J.look
  obtain ⟨od', J', _⟩ := J'.look
  obtain ⟨m, hF⟩ := I.fr
  show wpAny (model X.prog X.w) X.A (richCompare .Eq (.ref a) (.ref b)) (EP X pins σ Q) X.xe s
  refine PySem.W.cmp_K (op := .Eq) (tb := .ref C) hr.units0 hF I.ok.mod.kin J J'.type (by simp [PySem.W.notFirst]) hs hf ?_
  exact thn (run_fn (vs := [.ref a, .ref b]) (dvs := []) (ds := []) F hr hb .nil hx I (.cons rfl (.cons rfl .nil)) q) fun r s' ⟨z, H', I', rz, q'⟩ => rel_back rz ⟨z, H', I', rz, q'⟩

/-! ### C.m(..), a staticmethod of the class at C -/
structure SMet (K : Frg) (C : Addr) (m : Str) (p g : Addr) : Prop where
  at_ : PySem.W.findCls K (.ref C) (.type "type") m = some (.get (.builtin "staticmethod.__get__") (.ref p) .none (.ref C))
  rc : ∃ rest, PySem.W.recIn K p "staticmethod" = some (.ref g :: rest)
  kp : PySem.W.keepIn K (.ref g) = true
variable {o e : Expr} {es : List Expr} {m x : Str} {pos apos xpos : Pos} {t tk : TA} {ta : TE} {pl : Sem Bool} {p g : Addr}
theorem pe_static (hg : Gl X x) (hmg : X.mg x = some (.ref C)) (r : ClX.CRead X.K C (.type "type")) (c : SMet X.K C m p g) (F : FnOk X.prog X.w X.K X.mg X.base CX k g fd ps sp) (hr : Room k X.A) (hb : Binds X.K fd ps []) (hx : Passes CX X E) (ha : PA X (e :: es) t)
    (hst : starEach (e :: es) X.env = (false, eval e X.env) :: starEach es X.env := by rfl) (hpl : (backTo pos (starEach es X.env)).any (·.1) = false := by rfl)
    (ht : eval (.Call (.Attribute (.Name x xpos) m apos) (e :: es) [] pos) X.env = (do
      let ov ← eval (.Name x xpos) X.env
      standAt apos.atName
      let (f, first) ← holding [ov] (getMethod ov m pl)
      callWith pos f first (backTo pos (starEach (e :: es) X.env)) (backToKw pos (keywordEach [] X.env))) := by rfl) (hdb : (x == ("__debug__" : Str)) = false := by decide) :
    PE X (.Call (.Attribute (.Name x xpos) m apos) (e :: es) [] pos) (tCall sp [] E t) := by
  refine ⟨fun pins s σ H Q I h => ?_⟩
  refine PySem.W.methodCall_KW (pl := pl) (ld_glob I hg hmg ?_ hdb) ht
  obtain ⟨rest, hrec⟩ := c.rc
  refine PySem.W.method_cls I.kIn r.ga (PySem.W.cls_bind I.kIn r.rd c.at_ (wpAny_call (PySem.W.sm_get (s := { s with toks := s.toks + 1 }) I.kIn hrec (PySem.W.handed_on rfl ?_))))
  refine PySem.W.callWith_K (first := []) (h₀ := X.base) I.ok.mod.kin c.kp (thn (ha.run pos pins _ σ H _ (I.tok (s.toks + 1)) h) fun us s2 ⟨vs, H2, I2, rv, q2⟩ => ⟨I2.kIn, ?_⟩) hst hpl
  exact run_fn F hr hb .nil hx I2 rv q2

/-! ### o.m(k = e, ..) -/
def tMethK (C : Addr) (m : Str) (sp : Sp) (gV : List V → List V → List V) (E : XK) (ta : TE) (tk : TA) : TE := fun σ H Q => ta σ H fun x H1 => ∃ a dx fs, x = .ref a ∧ H1 a = some (.ins C dx fs) ∧ fs.lookup m = none ∧
  tk σ H1 fun zs H2 => sp (gV [x] zs) H2 Q E
theorem pe_methK {kws : List Keyword} {ks : List Str} {gq : List Value → List Value → List Value} {gV : List V → List V → List V} (he : PE X o ta) (c : Cls X.K C) (hm : Meth X.K C m f) (F : FnOk X.prog X.w X.K X.mg X.base CX k f fd ps sp) (hr : Room k X.A) (hb : KBinds X.K fd ps ks gq gV) (hx : Passes CX X E)
    (hkw : PK X kws tk) (hall : (backToKw pos (keywordEach kws X.env)).all (·.1.isSome) = true := by rfl) (hks : (backToKw pos (keywordEach kws X.env)).filterMap (·.1) = ks := by rfl)
    (hpl : ((backTo pos (starEach [] X.env)).any (·.1) || (backToKw pos (keywordEach kws X.env)).any (·.1.isNone)) = false := by rfl)
    (ht : eval (.Call (.Attribute o m apos) [] kws pos) X.env = (do
      let ov ← eval o X.env
      standAt apos.atName
      let (f, first) ← holding [ov] (getMethod ov m pl)
      callWith pos f first (backTo pos (starEach [] X.env)) (backToKw pos (keywordEach kws X.env))) := by rfl) :
    PE X (.Call (.Attribute o m apos) [] kws pos) (tMethK C m sp gV E ta tk) := by
  refine ⟨fun pins s σ H Q I h => ?_⟩
  refine PySem.W.methodCall_KW (pl := pl) (thn (he.run pins s σ H _ I h) fun u s1 ⟨x, H1, I1, rx, a, dx, fs, ex, ea, l, q⟩ => ?_) ht
  subst ex
  obtain rfl : u = Value.ref a := rx
  refine getmeth_ok I1 ea c hm l ?_
  refine PySem.W.callWith_KW0 (first := [.ref a]) (h₀ := X.base) I.ok.mod.kin hm.kp hall (thn (hkw.run pos pins s1 σ H1 _ I1 q) fun ws s2 ⟨zs, H2, I2, rz, q2⟩ => ⟨I2.kIn, ?_⟩) hpl
  rw [hks]
  exact run_fnk (us := [.ref a]) (vs := [.ref a]) F hr hb hx I2 (.cons rfl .nil) rz q2
end
end Cl

/-! part Pd -/
namespace Cl
open PySem L2

/-! ### pieces and trees as data -/
def sPart : Str := "part"
def sSil : Str := "silence"
def sSmp : Str := "samples"
def sRep : Str := "repeat"
def nmS : Bool → Str
  | true => "a"
  | false => "b"
def gd1 (p : Int × Int) : PyData := .tuple [.int p.1, .int p.2]
def gd (g : List (Int × Int)) : PyData := .tuple (g.map gd1)
def ids (xs : List Int) : List PyData := xs.map .int
mutual
def pd : Piece → PyData
  | .part n s e g => .tuple [.str "part", .str (nmS n), .int s, .int e, gd g]
  | .sil n => .tuple [.str "silence", .int n]
  | .smp xs g => .tuple [.str "samples", .tuple (ids xs), gd g]
  | .rep k ps => .tuple [.str "repeat", .int k, .tuple (pds ps)]
def pds : List Piece → List PyData
  | [] => []
  | p :: ps => pd p :: pds ps
end
abbrev pt (ps : List Piece) : PyData := .tuple (pds ps)
def td : Tree → PyData
  | .sil n => .tuple [.str "silence", .int n]
  | .smp xs => .tuple [.str "samples", .list (ids xs)]
  | .part n s e => .tuple [.str "part", .str (nmS n), .int s, .int e]
  | .sum a b => .tuple [.str "sum", td a, td b]
  | .times a k => .tuple [.str "times", td a, .int k]
  | .gain a t b => .tuple [.str "gain", td a, .int t, .int b]
  | .cut a s e => .tuple [.str "cut", td a, .int s, .int e]
theorem pds_map : ∀ ps, pds ps = ps.map pd
  | [] => rfl
  | p :: ps => by rw [pds, pds_map ps]; rfl
theorem pds_append (xs ys : List Piece) : pds (xs ++ ys) = pds xs ++ pds ys := by rw [pds_map, pds_map, pds_map, List.map_append]
theorem pds_length (xs : List Piece) : (pds xs).length = xs.length := by rw [pds_map, List.length_map]
theorem pds_get {xs : List Piece} {i : Nat} {d : PyData} (h : (pds xs)[i]? = some d) : ∃ p, xs[i]? = some p ∧ d = pd p := by
  rw [pds_map, List.getElem?_map] at h
  cases q : xs[i]? with
  | none => rw [q] at h; cases h
  | some p => rw [q] at h; cases h; exact ⟨p, rfl, rfl⟩
theorem lf_ids (xs : List Int) : LFs (ids xs) = true := (lfs_iff _).mpr fun d h => by
  obtain ⟨x, _, rfl⟩ := List.mem_map.mp h
  rfl
theorem lf_gd (g : List (Int × Int)) : LF (gd g) = true := (lfs_iff _).mpr fun d h => by
  obtain ⟨x, _, rfl⟩ := List.mem_map.mp h
  rfl
mutual
theorem lf_pd : ∀ p : Piece, LF (pd p) = true
  | .part n s e g => by simp [pd, LF, LFs, lf_gd]
  | .sil n => rfl
  | .smp xs g => by simp [pd, LF, LFs, lf_gd, lf_ids]
  | .rep k ps => by simp [pd, LF, LFs, lf_pds ps]
theorem lf_pds : ∀ ps : List Piece, LFs (pds ps) = true
  | [] => rfl
  | p :: ps => by simp [pds, LFs, lf_pd p, lf_pds ps]
end
theorem lf_pt (ps : List Piece) : LF (pt ps) = true := lf_pds ps
/-! ### comparing -/
theorem can_ids : ∀ xs : List Int, PyData.canLayAll0 (ids xs) = true
  | [] => rfl
  | x :: xs => by show (PyData.canLay0 (.int x) && PyData.canLayAll0 (ids xs)) = true; rw [can_ids xs]; rfl
theorem can_gs : ∀ g : List (Int × Int), PyData.canLayAll0 (g.map gd1) = true
  | [] => rfl
  | x :: xs => by show (PyData.canLay0 (gd1 x) && PyData.canLayAll0 (xs.map gd1)) = true; rw [can_gs xs]; rfl
theorem ok_words : PyData.strOk "part" = true ∧ PyData.strOk "silence" = true ∧ PyData.strOk "samples" = true ∧ PyData.strOk "repeat" = true ∧ PyData.strOk "a" = true ∧ PyData.strOk "b" = true ∧ PyData.strOk "none" = true := by decide +kernel
theorem ok_nm (n : Bool) : PyData.strOk (nmS n) = true := by cases n <;> simp only [nmS, ok_words]
mutual
theorem can_pd : ∀ p : Piece, PyData.canLay0 (pd p) = true
  | .part n s e g => by simp [pd, gd, PyData.canLay0, PyData.canLayAll0, can_gs, ok_words, ok_nm]
  | .sil n => by simp [pd, PyData.canLay0, PyData.canLayAll0, ok_words]
  | .smp xs g => by simp [pd, gd, PyData.canLay0, PyData.canLayAll0, can_gs, can_ids, ok_words]
  | .rep k ps => by simp [pd, PyData.canLay0, PyData.canLayAll0, can_pds ps, ok_words]
theorem can_pds : ∀ ps : List Piece, PyData.canLayAll0 (pds ps) = true
  | [] => rfl
  | p :: ps => by simp [pds, PyData.canLayAll0, can_pd p, can_pds ps]
end
theorem dep_ids : ∀ xs : List Int, PyData.depthAll (ids xs) = 0
  | [] => rfl
  | x :: xs => by show max (PyData.depth (.int x)) (PyData.depthAll (ids xs)) = 0; rw [dep_ids xs]; rfl
theorem dep_gs : ∀ g : List (Int × Int), PyData.depthAll (g.map gd1) ≤ 1
  | [] => Nat.zero_le _
  | x :: xs => by
    have := dep_gs xs
    show max (PyData.depth (gd1 x)) (PyData.depthAll (xs.map gd1)) ≤ 1
    have e : PyData.depth (gd1 x) = 1 := rfl
    omega
mutual
theorem dep_pd : ∀ (p : Piece) {c r : Nat}, limP p c r → PyData.depth (pd p) ≤ 3 + 2 * r
  | .part n s e g, c, r, _ => by
    have := dep_gs g
    simp only [pd, gd, PyData.depth, PyData.depthAll]
    omega
  | .sil n, c, r, _ => by
    simp only [pd, PyData.depth, PyData.depthAll]
    omega
  | .smp xs g, c, r, _ => by
    have := dep_gs g
    have := dep_ids xs
    simp only [pd, gd, PyData.depth, PyData.depthAll]
    omega
  | .rep k ps, c, r, h => by
    simp only [limP] at h
    obtain ⟨q, rfl, h⟩ := h
    have := dep_pds ps h
    simp only [pd, PyData.depth, PyData.depthAll]
    omega
theorem dep_pds : ∀ (ps : List Piece) {c r : Nat}, limL ps c r → PyData.depthAll (pds ps) ≤ 3 + 2 * r
  | [], _, _, _ => Nat.zero_le _
  | p :: ps, c, r, h => by
    have := dep_pd p h.1
    have := dep_pds ps h.2
    simp only [pds, PyData.depthAll]
    omega
end
theorem shaped_of {d : PyData} (h1 : PyData.canLay0 d = true) (h2 : PyData.depth d ≤ 64) : SeqAt.shaped d = true := Bool.and_eq_true_iff.mpr ⟨h1, decide_eq_true h2⟩
theorem sh_pt {ps : List Piece} {c r : Nat} (h : limL ps c r) (hr : r ≤ 25) : SeqAt.shaped (pt ps) = true := shaped_of (by simp only [PyData.canLay0]; exact can_pds ps) (by
  have := dep_pds ps h
  simp only [PyData.depth]
  omega)
theorem sh_pl {ps : List Piece} {c r : Nat} (h : limL ps c r) (hr : r ≤ 25) : SeqAt.shaped (.list (pds ps)) = true := shaped_of (by simp only [PyData.canLay0]; exact can_pds ps) (by
  have := dep_pds ps h
  simp only [PyData.depth]
  omega)
theorem sh_gd (g : List (Int × Int)) : SeqAt.shaped (gd g) = true := shaped_of (by simp only [gd, PyData.canLay0]; exact can_gs g) (by
  have := dep_gs g
  simp only [gd, PyData.depth]
  omega)
theorem sh_nil : SeqAt.shaped (.tuple []) = true := rfl
theorem sh_nilL : SeqAt.shaped (.list []) = true := rfl
/-- the five of a part that are compared -/
theorem sh_key (n : Bool) (e : Int) (g : List (Int × Int)) : SeqAt.shaped (.tuple [.str (nmS n), .int e, gd g]) = true := shaped_of (by simp [gd, PyData.canLay0, PyData.canLayAll0, can_gs, ok_nm]) (by
  have := dep_gs g
  simp only [gd, PyData.depth, PyData.depthAll]
  omega)
theorem eqv_gs : ∀ g h : List (Int × Int), PyData.eqvAll (g.map gd1) (h.map gd1) = decide (g = h)
  | [], [] => rfl
  | [], _ :: _ => by simp [PyData.eqvAll]
  | _ :: _, [] => by simp [PyData.eqvAll]
  | (a, b) :: g, (c, d) :: h => by
    have ih := eqv_gs g h
    simp only [List.map_cons, PyData.eqvAll, ih, gd1, PyData.eqv]
    rw [Bool.eq_iff_iff]
    simp
theorem eqv_gd (g h : List (Int × Int)) : PyData.eqv (gd g) (gd h) = decide (g = h) := by
  simp only [gd, PyData.eqv]
  exact eqv_gs g h
theorem nm_ne : ("a" : Str) ≠ "b" := by decide +kernel
theorem nm_inj (m n : Bool) : (nmS m = nmS n) ↔ m = n := by
  cases m <;> cases n <;> simp [nmS, nm_ne, Ne.symm nm_ne]
theorem eqv_key (n n' : Bool) (e s' : Int) (g g' : List (Int × Int)) : PyData.eqv (.tuple [.str (nmS n), .int e, gd g]) (.tuple [.str (nmS n'), .int s', gd g']) = decide (n = n' ∧ e = s' ∧ g = g') := by
  simp only [PyData.eqv, PyData.eqvAll, eqv_gd]
  rw [Bool.eq_iff_iff]
  simp [nm_inj]
theorem eqv_nil (ps : List Piece) : PyData.eqv (pt ps) (.tuple []) = decide (ps = []) := by
  cases ps <;> simp [pt, pds, PyData.eqv, PyData.eqvAll]
theorem eqv_nilL (ps : List Piece) : PyData.eqv (.list (pds ps)) (.list []) = decide (ps = []) := by
  cases ps <;> simp [pds, PyData.eqv, PyData.eqvAll]
theorem eqv_ids (xs : List Int) : PyData.eqv (.list (ids xs)) (.list []) = decide (xs = []) := by
  cases xs <;> simp [ids, PyData.eqv, PyData.eqvAll]
theorem eqv_pl (ps : List Piece) : PyData.eqv (.list (pds ps)) (.list (pds ps)) = true := SeqAt.eqv_refl _ (by simp only [PyData.canLay0]; exact can_pds ps)
/-! ### words -/
theorem w_ps : decide (("part" : Str) = "silence") = false := by decide +kernel
theorem w_sp : decide (("silence" : Str) = "part") = false := by decide +kernel
theorem w_mp : decide (("samples" : Str) = "part") = false := by decide +kernel
theorem w_ms : decide (("samples" : Str) = "silence") = false := by decide +kernel
theorem w_rp : decide (("repeat" : Str) = "part") = false := by decide +kernel
theorem w_rs : decide (("repeat" : Str) = "silence") = false := by decide +kernel
theorem w_rm : decide (("repeat" : Str) = "samples") = false := by decide +kernel
theorem w_pr : decide (("part" : Str) = "repeat") = false := by decide +kernel
theorem w_sr : decide (("silence" : Str) = "repeat") = false := by decide +kernel
theorem w_mr : decide (("samples" : Str) = "repeat") = false := by decide +kernel
theorem w_ns : decide (("none" : Str) = "silence") = false := by decide +kernel
theorem w_np : decide (("none" : Str) = "part") = false := by decide +kernel
end Cl

/-! part Fx -/
namespace Cl
open PySem L2

/-! ### a def's promise over data -/
/-- what is wanted where it returns d -/
def RT (K : Frg) (D : Ends) (H0 : Hp) (d : PyData) : Prop := (∀ v H, Same H0 H → Dp K H v d → D.rt v H) ∧ (d = .none → ∀ σ H, Same H0 H → D.nx σ H)
def startD (N : List Str) (ds : List PyData) : List (Option PyData) := ds.map some ++ List.replicate (N.length - ds.length) none
/-- slots of data -/
def dls (K : Frg) {m : Mo} (dl : List (Option PyData)) : Dl m := dl.map fun o => o.map (Dd K)
theorem ds_start {K : Frg} {H : Hp} {N : List Str} {ds : List PyData} {vs : List V} (h : DpAll K H vs ds) : DS K (m := .non) H (L2.start N vs) (dls K (startD N ds)) [] where
  wf := trivial
  len := by
    unfold L2.start dls startD
    rw [List.length_map, List.length_append, List.length_append, List.length_map, List.length_map, List.length_replicate, List.length_replicate, h.length]
  at_ := fun i P e => by
    unfold dls at e
    rw [List.getElem?_map] at e
    unfold startD at e
    by_cases hi : i < ds.length
    · rw [List.getElem?_append_left (by rw [List.length_map]; exact hi), List.getElem?_map, List.getElem?_eq_getElem hi] at e
      cases e
      obtain ⟨v, hv, p⟩ := h.get (List.getElem?_eq_getElem hi)
      refine ⟨v, ?_, by show Dp K (del .non H) v _; rw [del_non]; exact p⟩
      unfold L2.start
      rw [List.getElem?_append_left (by rw [List.length_map, h.length]; exact hi), List.getElem?_map, hv]
      rfl
    · rw [List.getElem?_append_right (by rw [List.length_map]; omega), List.getElem?_replicate] at e
      split at e <;> cases e
  ct := fun a e => nomatch e
section
variable {P : Program} {w : World} {K : Frg} {mg : Str → Option Value} {base : Heap}
theorem ok_D {x qual : Str} {st : Stmt} {f : Addr} {fd : FuncData} {N ps : List Str} {k : Nat} {R : List PyData → PyData → Prop} (F : Fun K x qual st f fd) (Sc : FnScope N ps (defScope st)) (hlen : ∀ ds d, R ds d → ds.length = ps.length)
    (hbody : ∀ (cdv : Value) (A : Around) (outer : List Env) (s : Shared) (H : Hp) (E : XK), Room k (A.deeper (PyProof.Rows.envOfC qual (defScope st) s.heap.objs.size f cdv)) →
      ∃ t, PSs (cxOf CX0 P w K mg base N qual (defScope st) f cdv A outer s H E).nox (defBody st) t ∧ ∀ ds d, R ds d → ∀ (D : Ends) (H0 : Hp), RT K D H0 d → S K (m := .non) t D (dls K (startD N ds)) [] H0) :
    FnOk P w K mg base CX0 (k + 1) f fd ps (spD K R) := by
  refine F.ok Sc (fun vs H Q E h => ?_) (fun cdv A outer s H vs Q E hr h => ?_)
  · obtain ⟨ds, d, hd, hR, _⟩ := h
    rw [hd.length]
    exact hlen ds d hR
  · obtain ⟨ds, d, hd, hR, q⟩ := h
    obtain ⟨t, ht, hs⟩ := hbody cdv A outer s H E hr
    refine ⟨t, ht, hs ds d hR _ H ⟨fun v H' e p => q v H' e p, fun e σ H' l => ?_⟩ _ _ (ds_start hd) (Same.refl _)⟩
    subst e
    exact q .non H' l .non
theorem ls_non {H0 H : Hp} (l : Ls .non H0 H) : Same H0 H := by
  unfold Ls at l
  rw [del_non, del_non] at l
  exact l
theorem s_retD {te : TE} {δ : Dl .non} {c : List PyData} {D : Ends} {H0 : Hp} {d : PyData} (h : Ev K te δ c (Dd K d)) (r : ∀ v H, Same H0 H → Dp K H v d → D.rt v H) : S K (tRet te) D δ c H0 := s_ret h fun v H l w p => r v H (ls_non l) (by
  have p : Dp K (del .non H) v d := p
  rw [del_non] at p
  exact p)
theorem s_endN {δ : Dl .non} {c : List PyData} {D : Ends} {H0 : Hp} (r : RT K D H0 .none) : S K tNext D δ c H0 := fun σ H s l => r.2 rfl σ H (ls_non l)
end

/-! ### built-ins -/
section
variable {K : Frg} {m : Mo} {δ : Dl m} {c : List PyData} {ta tb : TE} {d e : PyData} {ds : List PyData}
theorem ev_lenT (h : Ev K ta δ c (Dd K (.tuple ds))) : Ev K (tCB (fun xs H Q => ∃ p ys, xs = [.ref p] ∧ (SqL K H p ys ∨ SqT K H p ys) ∧ Q (.int ys.length) H) (tCons ta tNil)) δ c (Dd K (.int ds.length)) :=
  ev_cb (ea_cons h ea_nil) fun vs H Q w ps q => by
    cases ps with
    | cons p t =>
      cases t
      cases p with
      | tup hq hall => exact ⟨_, _, rfl, .inr (seqT del_sub hq), q _ H (Le.refl H) (by rw [hall.length]; exact .int _)⟩
theorem ev_lenL (h : Ev K ta δ c (Dd K (.list ds))) : Ev K (tCB (fun xs H Q => ∃ p ys, xs = [.ref p] ∧ (SqL K H p ys ∨ SqT K H p ys) ∧ Q (.int ys.length) H) (tCons ta tNil)) δ c (Dd K (.int ds.length)) :=
  ev_cb (ea_cons h ea_nil) fun vs H Q w ps q => by
    cases ps with
    | cons p t =>
      cases t
      cases p with
      | lst hq hall => exact ⟨_, _, rfl, .inl (Same.seq del_sub hq), q _ H (Le.refl H) (by rw [hall.length]; exact .int _)⟩
theorem ev_lenS {z : Str} (h : Ev K ta δ c (Dd K (.str z))) (hz : z.length ≤ sizeLine) : Ev K (tCB (fun xs H Q => ∃ z, xs = [.str z] ∧ z.length ≤ sizeLine ∧ Q (.int z.length) H) (tCons ta tNil)) δ c (Dd K (.int z.length)) :=
  ev_cb (ea_cons h ea_nil) fun vs H Q w ps q => by
    cases ps with
    | cons p t =>
      cases t
      cases p
      exact ⟨z, rfl, hz, q _ H (Le.refl H) (.int _)⟩
theorem ev_sum {ns : List Int} (h : Ev K ta δ c (Dd K (.list (ids ns)))) : Ev K (tCB (rSum K) (tCons ta tNil)) δ c (Dd K (.int ns.sum)) :=
  ev_cb (ea_cons h ea_nil) fun vs H Q w ps q => by
    cases ps with
    | cons p t =>
      cases t
      cases p with
      | lst hq hall =>
        have e := DpAll.ints hall
        subst e
        exact ⟨_, ns, rfl, Same.seq del_sub hq, q _ H (Le.refl H) (.int _)⟩
theorem ev_all {bs : List Bool} (h : Ev K ta δ c (Dd K (.list (bs.map .bool)))) : Ev K (tCB (rAll K) (tCons ta tNil)) δ c (Dd K (.bool (bs.all id))) :=
  ev_cb (ea_cons h ea_nil) fun vs H Q w ps q => by
    cases ps with
    | cons p t =>
      cases t
      cases p with
      | lst hq hall =>
        have e := DpAll.bls hall
        subst e
        exact ⟨_, bs, rfl, Same.seq del_sub hq, q _ H (Le.refl H) (.bl _)⟩
theorem ev_max2 {i j : Int} (ha : Ev K ta δ c (Dd K (.int i))) (hb : Ev K tb δ c (Dd K (.int j))) : Ev K (tCB (fun xs H Q => ∃ i j, xs = [.int i, .int j] ∧ Q (.int (if j > i then j else i)) H) (tCons ta (tCons tb tNil))) δ c (Dd K (.int (max i j))) :=
  ev_cb (ea_cons ha (ea_cons hb ea_nil)) fun vs H Q w ps q => by
    cases ps with
    | cons p t =>
      cases t with
      | cons p2 t =>
        cases t
        cases p
        cases p2
        have e : (if j > i then j else i) = max i j := by split <;> omega
        exact ⟨i, j, rfl, by rw [e]; exact q _ H (Le.refl H) (.int _)⟩
theorem ev_min2 {i j : Int} (ha : Ev K ta δ c (Dd K (.int i))) (hb : Ev K tb δ c (Dd K (.int j))) : Ev K (tCB (fun xs H Q => ∃ i j, xs = [.int i, .int j] ∧ Q (.int (if j < i then j else i)) H) (tCons ta (tCons tb tNil))) δ c (Dd K (.int (min i j))) :=
  ev_cb (ea_cons ha (ea_cons hb ea_nil)) fun vs H Q w ps q => by
    cases ps with
    | cons p t =>
      cases t with
      | cons p2 t =>
        cases t
        cases p
        cases p2
        have e : (if j < i then j else i) = min i j := by split <;> omega
        exact ⟨i, j, rfl, by rw [e]; exact q _ H (Le.refl H) (.int _)⟩
theorem ev_int1 {i : Int} (h : Ev K ta δ c (Dd K (.int i))) : Ev K (tCB (fun xs H Q => (∃ i, xs = [.int i] ∧ Q (.int i) H) ∨ ∃ k, xs = [.bl k] ∧ Q (.int (if k then 1 else 0)) H) (tCons ta tNil)) δ c (Dd K (.int i)) :=
  ev_cb (ea_cons h ea_nil) fun vs H Q w ps q => by
    cases ps with
    | cons p t =>
      cases t
      cases p
      exact .inl ⟨i, rfl, q _ H (Le.refl H) (.int _)⟩
theorem ev_intB {b : Bool} (h : Ev K ta δ c (Dd K (.bool b))) : Ev K (tCB (fun xs H Q => (∃ i, xs = [.int i] ∧ Q (.int i) H) ∨ ∃ k, xs = [.bl k] ∧ Q (.int (if k then 1 else 0)) H) (tCons ta tNil)) δ c (Dd K (.int (if b then 1 else 0))) :=
  ev_cb (ea_cons h ea_nil) fun vs H Q w ps q => by
    cases ps with
    | cons p t =>
      cases t
      cases p
      exact .inr ⟨b, rfl, q _ H (Le.refl H) (.int _)⟩
theorem kit_ii : kitB "int" "int" = some true := by decide +kernel
theorem kit_ib : kitB "int" "bool" = some false := by decide +kernel
theorem kit_ll : kitB "list" "list" = some true := by decide +kernel
theorem kit_lt : kitB "list" "tuple" = some false := by decide +kernel
theorem kit_ss : kitB "str" "str" = some true := by decide +kernel
/-- tuple(t), tuple(xs), list(t), list(xs) -/
theorem ev_tupT (h : Ev K ta δ c (Dd K (.tuple ds))) : Ev K (tCB (fun xs H Q => ∃ p ys, xs = [.ref p] ∧ ((SqL K H p ys ∧ ∀ l, H l = none → Q (.ref l) (upd H l (.tup ys))) ∨ (SqT K H p ys ∧ Q (.ref p) H))) (tCons ta tNil)) δ c (Dd K (.tuple ds)) :=
  ev_cb (ea_cons h ea_nil) fun vs H Q w ps q => by
    cases ps with
    | cons p t =>
      cases t
      cases p with
      | tup hq hall => exact ⟨_, _, rfl, .inr ⟨seqT del_sub hq, q _ H (Le.refl H) (.tup hq hall)⟩⟩
theorem ev_tupL (h : Ev K ta δ c (Dd K (.list ds))) : Ev K (tCB (fun xs H Q => ∃ p ys, xs = [.ref p] ∧ ((SqL K H p ys ∧ ∀ l, H l = none → Q (.ref l) (upd H l (.tup ys))) ∨ (SqT K H p ys ∧ Q (.ref p) H))) (tCons ta tNil)) δ c (Dd K (.tuple ds)) :=
  ev_cb (ea_cons h ea_nil) fun vs H Q w ps q => by
    cases ps with
    | cons p t =>
      cases t
      cases p with
      | lst hq hall => exact ⟨_, _, rfl, .inl ⟨Same.seq del_sub hq, fun l hl => q _ _ (Le.new w hl) (.tup (.inl (.inl (del_new w hl))) (Dp.monos (Le.new w hl).ex _ _ hall))⟩⟩
theorem ev_listT (h : Ev K ta δ c (Dd K (.tuple ds))) : Ev K (tCB (fun xs H Q => ∃ p ys, xs = [.ref p] ∧ (SqL K H p ys ∨ SqT K H p ys) ∧ ∀ l, H l = none → Q (.ref l) (upd H l (.lst ys))) (tCons ta tNil)) δ c (Dd K (.list ds)) :=
  ev_cb (ea_cons h ea_nil) fun vs H Q w ps q => by
    cases ps with
    | cons p t =>
      cases t
      cases p with
      | tup hq hall => exact ⟨_, _, rfl, .inr (seqT del_sub hq), fun l hl => q _ _ (Le.new w hl) (.lst (.inl (.inl (del_new w hl))) (Dp.monos (Le.new w hl).ex _ _ hall))⟩
/-- sorted of two -/
theorem sorted2 {a b : Int} {l : List Int} (h : l.Perm [a, b]) (s : l.Pairwise (· ≤ ·)) : l = [min a b, max a b] := by
  have hl := h.length_eq
  match l, hl with
  | [x, y], _ =>
    have hxy : x ≤ y := by simpa using s
    have hm := h.mem_iff (a := x)
    have : x = a ∨ x = b := by simpa using hm.mp (by simp)
    rcases this with e | e <;> subst e
    · have q := (List.perm_cons x).mp h
      have : y = b := by simpa using List.perm_singleton.mp q
      subst this
      rw [Int.min_eq_left hxy, Int.max_eq_right hxy]
    · have q := (List.perm_cons x).mp (h.trans (List.Perm.swap x a []))
      have : y = a := by simpa using List.perm_singleton.mp q
      subst this
      rw [Int.min_eq_right hxy, Int.max_eq_left hxy]
theorem ev_sorted2 {a b : Int} (h : Ev K ta δ c (Dd K (.list [.int a, .int b]))) : Ev K (tCB (rSorted K) (tCons ta tNil)) δ c (Dd K (.list [.int (min a b), .int (max a b)])) :=
  ev_cb (ea_cons h ea_nil) fun vs H Q w ps q => by
    cases ps with
    | cons p t =>
      cases t
      cases p with
      | lst hq hall =>
        have e := DpAll.ints (ns := [a, b]) hall
        subst e
        refine ⟨_, [a, b], rfl, Same.seq del_sub hq, (by show 2 < 64; decide), fun l p hp hs hn => ?_⟩
        have e := sorted2 hp hs
        subst e
        exact q _ _ (Le.new w hn) (.lst (.inl (.inl (del_new w hn))) (.cons (.int _) (.cons (.int _) .nil)))
/-- isinstance -/
def dV {m : Mo} (v : V) : De m := ⟨fun x _ => x = v, fun _ _ _ _ h => h⟩
theorem ev_c {v : V} : Ev K (m := m) (tC v) δ c (dV v) := fun σ H Q s q => q _ H (Le.refl H) rfl
def tyD : PyData → String
  | .none => "NoneType" | .bool _ => "bool" | .int _ => "int" | .str _ => "str" | .list _ => "list" | .tuple _ => "tuple" | .dict _ => "dict"
theorem tyx_of {H : Hp} {x : V} (h : Dp K H x d) : TyX K H x (.type (tyD d)) := by
  cases h with
  | non => exact .base .non
  | bl b => exact .base (.bl b)
  | int i => exact .base (.int i)
  | str z => exact .base (.str z)
  | lst h _ =>
    rcases h with (h | ⟨o, h⟩) | ⟨o, its, n, h, hc, _⟩
    · exact .base (.lst h)
    · exact .base (.frz h)
    · exact .kList h hc
  | tup h _ =>
    rcases h with (h | ⟨o, h⟩) | ⟨o, its, n, h, hc, _⟩
    · exact .base (.tup h)
    · exact .fTuple h
    · exact .kTuple h hc
theorem ev_isi {n : String} {b : Bool} (h : Ev K ta δ c (Dd K d)) (hb : Ev K tb δ c (dV (.ty n))) (hk : kitB (tyD d) n = some b) : Ev K (tCB (rIsi K) (tCons ta (tCons tb tNil))) δ c (Dd K (.bool b)) :=
  ev_cb (ea_cons h (ea_cons hb ea_nil)) fun vs H Q w ps q => by
    cases ps with
    | cons p t =>
      cases t with
      | cons p2 t =>
        cases t
        cases p2
        exact ⟨_, _, _, _, b, rfl, .ty n, tyx_of (Dp.mono del_sub _ _ p), kit_ty hk, q _ H (Le.refl H) (.bl b)⟩
theorem ev_isiT {n1 n2 : String} {b1 b2 : Bool} (h : Ev K ta δ c (Dd K d)) (h1 : kitB (tyD d) n1 = some b1) (h2 : kitB (tyD d) n2 = some b2) :
    Ev K (tCB (rIsiT K) (tCons ta (tCons (tTup (tCons (tC (.ty n1)) (tCons (tC (.ty n2)) tNil))) tNil))) δ c (Dd K (.bool (b1 || b2))) := fun σ H Q s q =>
  h σ H _ s fun v H1 l1 p => ⟨(by show 2 ≤ sizeLine; decide), fun a ha => by
    have l2 := Le.new (u := .tup [.ty n1, .ty n2]) (l1.wf s.wf) ha
    refine ⟨v, a, _, _, _, b1 || b2, rfl, upd_same, .cons (.ty n1) (.cons (.ty n2) .nil), tyx_of (Dp.mono del_sub _ _ (Dp.mono l2.ex _ _ p)), ?_, q _ _ (l1.trans l2) (.bl _)⟩
    cases b1 with
    | true => exact kitAny_cons (kit_ty h1) (fun z => nomatch z) fun _ => rfl
    | false => exact kitAny_cons (kit_ty h1) (fun _ => kitAny_cons (kit_ty h2) (fun z => by rw [z]; exact kitAny_nil) fun z => by rw [z]; rfl) fun z => nomatch z⟩
end

/-! ### a list of one's own -/
section
variable {K : Frg} {p : Addr} {δ : Dl (.lst p)} {c : List PyData} {ta tb te : TE} {d e : PyData} {ds : List PyData} {D : Ends} {H0 : Hp} {tu tv : TS}
theorem DS.put {H : Hp} {σ : St} {vs : List V} (s : DS K H σ δ c) (h : DpAll K (del (.lst p) H) vs ds) : DS K (upd H p (.lst vs)) σ δ ds where
  wf := ⟨vs, upd_same⟩
  len := s.len
  at_ := fun i P e => by
    obtain ⟨v, e1, q⟩ := s.at_ i P e
    exact ⟨v, e1, P.mono v H _ (by rw [del_upd_self rfl]; exact Same.refl _) q⟩
  ct := fun a e => by
    cases e
    exact ⟨vs, upd_same, by rw [del_upd_self rfl]; exact h⟩
/-- what makes a new list -/
def EvN (K : Frg) {m : Mo} (te : TE) (δ : Dl m) (c ds : List PyData) : Prop := ∀ (σ : St) (H : Hp) (Q : VK), DS K H σ δ c → (∀ a H1 vs, Le m H H1 → H1 a = none → DpAll K (del m H1) vs ds → Q (.ref a) (upd H1 a (.lst vs))) → te σ H Q
theorem en_nil {m : Mo} {δ : Dl m} : EvN K (tLst tNil) δ c [] := fun σ H Q s q => ⟨by decide, fun a ha => q a H [] (Le.refl H) ha .nil⟩
theorem en_list {m : Mo} {δ : Dl m} (h : Ev K ta δ c (Dd K (.tuple ds))) : EvN K (tCB (fun xs H Q => ∃ p ys, xs = [.ref p] ∧ (SqL K H p ys ∨ SqT K H p ys) ∧ ∀ l, H l = none → Q (.ref l) (upd H l (.lst ys))) (tCons ta tNil)) δ c ds := fun σ H Q s q =>
  h σ H _ s fun v H1 l1 p => by
    cases p with
    | @tup a xs _ hq hall => exact ⟨a, xs, rfl, .inr (seqT del_sub hq), fun l hl => q l H1 xs l1 hl hall⟩
theorem q_newL {i : Nat} {dl : List (Option PyData)} (h : EvN K (m := .non) te (dls K dl) [] ds)
    (k : ∀ p, H0 p = none → S K (m := .lst p) tv D ((dls K dl).set i (some (dAt p))) ds H0) : S K (m := .non) (tSeq (tAsg te (gName i)) tv) D (dls K dl) [] H0 := fun σ H s l =>
  h σ H _ s fun a H1 vs l1 ha hall => by
    have hl : Same H0 H1 := (ls_non l).trans (by have := l1.ex; rw [del_non, del_non] at this; exact this)
    have h0 : H0 a = none := hl.free ha
    have e1 : del (.lst a) (upd H1 a (.lst vs)) = H1 := by
      rw [del_upd_self rfl]
      funext b
      unfold del
      split
      · rename_i e
        cases e
        exact ha.symm
      · rfl
    have e0 : del (.lst a) H0 = H0 := by
      funext b
      unfold del
      split
      · rename_i e
        cases e
        exact h0.symm
      · rfl
    have s1 := s.mono l1
    rw [del_non] at hall
    refine k a h0 _ _ ?_ (by unfold Ls; rw [e1, e0]; exact hl)
    have s2 : DS K (m := .lst a) (upd H1 a (.lst vs)) σ (dls K dl) ds := by
      refine ⟨⟨vs, upd_same⟩, s1.len.trans (by simp [dls]), fun i P e => ?_, fun b e => ?_⟩
      · unfold dls at e
        rw [List.getElem?_map] at e
        cases q : dl[i]? with
        | none => rw [q] at e; cases e
        | some o =>
          cases o with
          | none => rw [q] at e; cases e
          | some d =>
            rw [q] at e
            cases e
            obtain ⟨v, e2, p⟩ := s1.at_ i (Dd K d) (by unfold dls; rw [List.getElem?_map, q]; rfl)
            refine ⟨v, e2, ?_⟩
            show Dp K (del (.lst a) (upd H1 a (.lst vs))) v d
            have p : Dp K (del .non H1) v d := p
            rw [del_non] at p
            rw [e1]
            exact p
      · cases e
        exact ⟨vs, upd_same, by rw [e1]; exact hall⟩
    exact s2.set i (P := dAt a) rfl
theorem s_retL {te : TE} (h : Ev K te δ c (Dd K d)) (r : ∀ v H, Same H0 H → Dp K H v d → D.rt v H) (h0 : H0 p = none) : S K (tRet te) D δ c H0 := s_ret h fun v H l w q => r v H (fun b u hb => del_sub _ _ (l b u (by
  unfold del
  split
  · rename_i e
    cases e
    rw [h0] at hb
    cases hb
  · exact hb))) (Dp.mono del_sub _ _ q)
theorem evl_tup (h : Ev K ta δ c (dAt p)) : Ev K (tCB (fun xs H Q => ∃ p ys, xs = [.ref p] ∧ ((SqL K H p ys ∧ ∀ l, H l = none → Q (.ref l) (upd H l (.tup ys))) ∨ (SqT K H p ys ∧ Q (.ref p) H))) (tCons ta tNil)) δ c (Dd K (.tuple c)) := fun σ H Q s q =>
  h σ H _ s fun v H1 l1 e => by
    have e : v = .ref p := e
    subst e
    obtain ⟨vs, hv, hall⟩ := (s.mono l1).ct p rfl
    have w := l1.wf s.wf
    exact ⟨p, vs, rfl, .inl ⟨SqL.of hv, fun l hl => q _ _ (l1.trans (Le.new w hl)) (.tup (.inl (.inl (del_new w hl))) (Dp.monos (Le.new w hl).ex _ _ hall))⟩⟩
theorem evl_ix {i : Int} (h : Ev K ta δ c (dAt p)) (hb : Ev K tb δ c (Dd K (.int i))) (hi : atI c i = some d) : Ev K (tOp (rIxL K) ta tb) δ c (Dd K d) := fun σ H Q s q =>
  h σ H _ s fun v H1 l1 e => hb σ H1 _ (s.mono l1) fun v2 H2 l2 e2 => by
    have e : v = .ref p := e
    subst e
    cases e2
    obtain ⟨vs, hv, hall⟩ := (s.mono (l1.trans l2)).ct p rfl
    obtain ⟨z, hz, pz⟩ := atI_rel hall hi
    exact ⟨p, vs, i, z, rfl, rfl, SqL.of hv, hz, q z H2 (l1.trans l2) pz⟩
theorem evl_ne (h : Ev K ta δ c (dAt p)) (hb : Ev K tb δ c (Dd K e)) (h1 : SeqAt.shaped (.list c) = true) (h2 : SeqAt.shaped e = true) : Ev K (tOp (rNeD K) ta tb) δ c (Dd K (.bool (!PyData.eqv (.list c) e))) := fun σ H Q s q =>
  h σ H _ s fun v H1 l1 e1 => hb σ H1 _ (s.mono l1) fun v2 H2 l2 e2 => by
    have e1 : v = .ref p := e1
    subst e1
    obtain ⟨vs, hv, hall⟩ := (s.mono (l1.trans l2)).ct p rfl
    exact ⟨.list c, e, .lst (SqL.of hv) (Dp.monos del_sub _ _ hall), Dp.mono del_sub _ _ e2, h1, h2, q _ H2 (l1.trans l2) (.bl _)⟩
theorem s_app (h : Ev K ta δ c (dAt p)) (he : Ev K te δ c (Dd K d)) (hz : c.length < 1000000) (k : S K tNext D δ (c ++ [d]) H0) : S K (tDrop (tBM K "list" rAppend ta (tCons te tNil))) D δ c H0 := fun σ H s l =>
  h σ H _ s fun v H1 l1 e1 => by
    have e1 : v = .ref p := e1
    subst e1
    obtain ⟨vs, hv, hall⟩ := (s.mono l1).ct p rfl
    refine ⟨.inl ⟨rfl, vs, SqL.of hv⟩, he σ H1 _ (s.mono l1) fun y H2 l2 e2 => ?_⟩
    obtain ⟨vs2, hv2, hall2⟩ := (s.mono (l1.trans l2)).ct p rfl
    refine ⟨p, vs2, y, rfl, rfl, hv2, Nat.lt_of_lt_of_le (by rw [hall2.length]; exact hz) (by decide : 1000000 ≤ sizeLine), ?_⟩
    refine k σ _ ((s.mono (l1.trans l2)).put (hall2.append (.cons e2 .nil))) ?_
    unfold Ls
    rw [del_upd_self rfl]
    exact l.trans (l1.trans l2).ex
theorem s_setL {i : Int} {j : Nat} (he : Ev K te δ c (Dd K d)) (h : Ev K ta δ c (dAt p)) (hb : Ev K tb δ c (Dd K (.int i))) (hi : ixN c.length i = some j) (k : S K tNext D δ (c.set j d) H0) : S K (tAsg te (gSub ta tb rSetL)) D δ c H0 := fun σ H s l =>
  he σ H _ s fun y H1 l1 e1 => h σ H1 _ (s.mono l1) fun v H2 l2 e2 => hb σ H2 _ ((s.mono l1).mono l2) fun v2 H3 l3 e3 => by
    have e2 : v = .ref p := e2
    subst e2
    cases e3
    obtain ⟨vs, hv, hall⟩ := (s.mono ((l1.trans l2).trans l3)).ct p rfl
    refine ⟨p, vs, i, j, rfl, rfl, hv, by rw [hall.length]; exact hi, ?_⟩
    refine k σ _ ((s.mono ((l1.trans l2).trans l3)).put (hall.set (Dp.mono (l2.trans l3).ex _ _ e1) j)) ?_
    unfold Ls
    rw [del_upd_self rfl]
    exact l.trans ((l1.trans l2).trans l3).ex
/-- *rest, last = a tuple, rest a list that nobody changes -/
theorem q_star {m : Mo} {δ : Dl m} {i j : Nat} {tl : TE} (h : Ev K tl δ c (Dd K (.tuple (ds ++ [d])))) (k : S K tv D ((δ.set i (some (Dd K (.list ds)))).set j (some (Dd K d))) c H0) :
    S K (tSeq (tAsg tl (gStar K (gCons (gName i) (gCons (gName j) gNil)))) tv) D δ c H0 := fun σ H s l =>
  h σ H _ s fun v H1 l1 e => by
    cases e with
    | @tup a xs _ hq hall =>
      have hl : 0 < xs.length := by rw [hall.length, List.length_append]; simp
      have e1 : xs = xs.dropLast ++ [xs.getLast (List.ne_nil_of_length_pos hl)] := (List.dropLast_concat_getLast _).symm
      have h1 := hall.take ds.length
      have h2 := hall.drop ds.length
      rw [List.take_left' rfl] at h1
      rw [List.drop_left' rfl] at h2
      have e2 : xs.length = ds.length + 1 := by rw [hall.length, List.length_append]; rfl
      have et : xs.take ds.length = xs.dropLast := by rw [List.dropLast_eq_take, e2]; rfl
      have ed : xs.drop ds.length = [xs.getLast (List.ne_nil_of_length_pos hl)] := by
        have q : (xs.dropLast ++ [xs.getLast (List.ne_nil_of_length_pos hl)]).drop ds.length = [xs.getLast (List.ne_nil_of_length_pos hl)] := List.drop_left' (by rw [List.length_dropLast, e2]; rfl)
        rw [← e1] at q
        exact q
      rw [et] at h1
      rw [ed] at h2
      refine ⟨a, xs.dropLast, xs.getLast (List.ne_nil_of_length_pos hl), rfl, by rw [← e1]; exact seqT del_sub hq, fun b hb => ⟨_, _, rfl, _, _, rfl, rfl, ?_⟩⟩
      have w := l1.wf s.wf
      have l2 := Le.new (u := .lst xs.dropLast) w hb
      refine k _ _ (((s.mono (l1.trans l2)).set i ?_).set j ?_) (l.trans (l1.trans l2).ex)
      · exact .lst (.inl (.inl (del_new w hb))) (Dp.monos l2.ex _ _ h1)
      · cases h2 with
        | cons h2 _ => exact Dp.mono l2.ex _ _ h2
end
end Cl

/-! part Tx -/
namespace Cl
open PySem L2
def top (i : Nat) : Stmt := PySem.Challenge.pw_framejoins_k47_whole_pieces_of_clips.main.body.getD i (.Pass ⟨0, 0, 0, 0⟩)
abbrev s_is_integer : Stmt := top 8
theorem sc_is_integer : FnScope ["value"] ["value"] (defScope s_is_integer) := ⟨rfl, rfl, rfl, by decide +kernel, rfl, by decide +kernel, by decide +kernel⟩
abbrev s_is_between : Stmt := top 9
theorem sc_is_between : FnScope ["value", "least", "most"] ["value", "least", "most"] (defScope s_is_between) := ⟨rfl, rfl, rfl, by decide +kernel, rfl, by decide +kernel, by decide +kernel⟩
abbrev s_is_row : Stmt := top 10
theorem sc_is_row : FnScope ["value"] ["value"] (defScope s_is_row) := ⟨rfl, rfl, rfl, by decide +kernel, rfl, by decide +kernel, by decide +kernel⟩
abbrev s_is_name : Stmt := top 20
theorem sc_is_name : FnScope ["value", "sign"] ["value"] (defScope s_is_name) := ⟨rfl, rfl, rfl, by decide +kernel, rfl, by decide +kernel, by decide +kernel⟩
abbrev s_require_sound : Stmt := top 12
theorem sc_require_sound : FnScope ["sound", "index", "sample"] ["sound"] (defScope s_require_sound) := ⟨rfl, rfl, rfl, by decide +kernel, rfl, by decide +kernel, by decide +kernel⟩
abbrev s_piece_length : Stmt := top 21
theorem sc_piece_length : FnScope ["piece"] ["piece"] (defScope s_piece_length) := ⟨rfl, rfl, rfl, by decide +kernel, rfl, by decide +kernel, by decide +kernel⟩
abbrev s_total_length : Stmt := top 22
theorem sc_total_length : FnScope ["pieces", "piece"] ["pieces"] (defScope s_total_length) := ⟨rfl, rfl, rfl, by decide +kernel, rfl, by decide +kernel, by decide +kernel⟩
abbrev s_piece_count : Stmt := top 23
theorem sc_piece_count : FnScope ["pieces", "piece"] ["pieces"] (defScope s_piece_count) := ⟨rfl, rfl, rfl, by decide +kernel, rfl, by decide +kernel, by decide +kernel⟩
abbrev s_merged : Stmt := top 24
theorem sc_merged : FnScope ["first", "second"] ["first", "second"] (defScope s_merged) := ⟨rfl, rfl, rfl, by decide +kernel, rfl, by decide +kernel, by decide +kernel⟩
abbrev s_both_pieces : Stmt := top 25
theorem sc_both_pieces : FnScope ["first", "second", "one"] ["first", "second"] (defScope s_both_pieces) := ⟨rfl, rfl, rfl, by decide +kernel, rfl, by decide +kernel, by decide +kernel⟩
abbrev s_repeated_pieces : Stmt := top 26
theorem sc_repeated_pieces : FnScope ["pieces", "count"] ["pieces", "count"] (defScope s_repeated_pieces) := ⟨rfl, rfl, rfl, by decide +kernel, rfl, by decide +kernel, by decide +kernel⟩
abbrev s_cut_repeat : Stmt := top 27
theorem sc_cut_repeat : FnScope ["piece", "start", "end", "inner", "size", "first", "last", "found"] ["piece", "start", "end"] (defScope s_cut_repeat) := ⟨rfl, rfl, rfl, by decide +kernel, rfl, by decide +kernel, by decide +kernel⟩
abbrev s_cut_piece : Stmt := top 28
theorem sc_cut_piece : FnScope ["piece", "start", "end"] ["piece", "start", "end"] (defScope s_cut_piece) := ⟨rfl, rfl, rfl, by decide +kernel, rfl, by decide +kernel, by decide +kernel⟩
abbrev s_cut_pieces : Stmt := top 29
theorem sc_cut_pieces : FnScope ["pieces", "start", "end", "found", "place", "piece", "size", "first", "last"] ["pieces", "start", "end"] (defScope s_cut_pieces) := ⟨rfl, rfl, rfl, by decide +kernel, rfl, by decide +kernel, by decide +kernel⟩
abbrev s_gained_pieces : Stmt := top 30
theorem sc_gained_pieces : FnScope ["pieces", "gain", "found", "piece", "rest", "gains"] ["pieces", "gain"] (defScope s_gained_pieces) := ⟨rfl, rfl, rfl, by decide +kernel, rfl, by decide +kernel, by decide +kernel⟩
abbrev s_c_init : Stmt := inClass (top 34) 0
theorem sc_c_init : FnScope ["self", "pieces"] ["self", "pieces"] (defScope s_c_init) := ⟨rfl, rfl, rfl, by decide +kernel, rfl, by decide +kernel, by decide +kernel⟩
abbrev s_c_part : Stmt := inClass (top 34) 1
theorem sc_c_part : FnScope ["name", "start", "end", "value"] ["name", "start", "end"] (defScope s_c_part) := ⟨rfl, rfl, rfl, by decide +kernel, rfl, by decide +kernel, by decide +kernel⟩
abbrev s_c_silence : Stmt := inClass (top 34) 2
theorem sc_c_silence : FnScope ["count"] ["count"] (defScope s_c_silence) := ⟨rfl, rfl, rfl, by decide +kernel, rfl, by decide +kernel, by decide +kernel⟩
abbrev s_c_samples : Stmt := inClass (top 34) 3
theorem sc_c_samples : FnScope ["sound"] ["sound"] (defScope s_c_samples) := ⟨rfl, rfl, rfl, by decide +kernel, rfl, by decide +kernel, by decide +kernel⟩
abbrev s_c_length : Stmt := inClass (top 34) 4
theorem sc_c_length : FnScope ["self"] ["self"] (defScope s_c_length) := ⟨rfl, rfl, rfl, by decide +kernel, rfl, by decide +kernel, by decide +kernel⟩
abbrev s_c_pieces : Stmt := inClass (top 34) 6
theorem sc_c_pieces : FnScope ["self"] ["self"] (defScope s_c_pieces) := ⟨rfl, rfl, rfl, by decide +kernel, rfl, by decide +kernel, by decide +kernel⟩
abbrev s_c_require_stretch : Stmt := inClass (top 34) 7
theorem sc_c_require_stretch : FnScope ["self", "start", "end", "value"] ["self", "start", "end"] (defScope s_c_require_stretch) := ⟨rfl, rfl, rfl, by decide +kernel, rfl, by decide +kernel, by decide +kernel⟩
abbrev s_c_cut : Stmt := inClass (top 34) 8
theorem sc_c_cut : FnScope ["self", "start", "end"] ["self", "start", "end"] (defScope s_c_cut) := ⟨rfl, rfl, rfl, by decide +kernel, rfl, by decide +kernel, by decide +kernel⟩
abbrev s_c_gained : Stmt := inClass (top 34) 9
theorem sc_c_gained : FnScope ["self", "top", "bottom"] ["self", "top", "bottom"] (defScope s_c_gained) := ⟨rfl, rfl, rfl, by decide +kernel, rfl, by decide +kernel, by decide +kernel⟩
abbrev s_c_add : Stmt := inClass (top 34) 11
theorem sc_c_add : FnScope ["self", "other"] ["self", "other"] (defScope s_c_add) := ⟨rfl, rfl, rfl, by decide +kernel, rfl, by decide +kernel, by decide +kernel⟩
abbrev s_c_mul : Stmt := inClass (top 34) 12
theorem sc_c_mul : FnScope ["self", "other"] ["self", "other"] (defScope s_c_mul) := ⟨rfl, rfl, rfl, by decide +kernel, rfl, by decide +kernel, by decide +kernel⟩
abbrev s_c_eq : Stmt := inClass (top 34) 13
theorem sc_c_eq : FnScope ["self", "other"] ["self", "other"] (defScope s_c_eq) := ⟨rfl, rfl, rfl, by decide +kernel, rfl, by decide +kernel, by decide +kernel⟩
abbrev s_law_pool : Stmt := top 36
theorem sc_law_pool : FnScope ["_law_script", "_law_k", "_law_cell", "_law_number", "_law_mixed"] ["_law_script", "_law_k"] (defScope s_law_pool) := ⟨rfl, rfl, rfl, by decide +kernel, rfl, by decide +kernel, by decide +kernel⟩
abbrev s_law_take : Stmt := top 37
theorem sc_law_take : FnScope ["_law_pool_here", "_law_many", "_law_digit"] ["_law_pool_here", "_law_many"] (defScope s_law_take) := ⟨rfl, rfl, rfl, by decide +kernel, rfl, by decide +kernel, by decide +kernel⟩
abbrev s_law_clip : Stmt := top 38
theorem sc_law_clip : FnScope ["_law_pool_here", "_law_depth", "_law_lengths", "_law_way", "_law_kind", "_law_turn", "_law_name", "_law_start_here", "_law_first"] ["_law_pool_here", "_law_depth", "_law_lengths"] (defScope s_law_clip) := ⟨rfl, rfl, rfl, by decide +kernel, rfl, by decide +kernel, by decide +kernel⟩
abbrev s_law_made : Stmt := top 39
theorem sc_law_made : FnScope ["_law_tree", "_law_first", "_law_start_here", "_law_end_here"] ["_law_tree"] (defScope s_law_made) := ⟨rfl, rfl, rfl, by decide +kernel, rfl, by decide +kernel, by decide +kernel⟩
abbrev s_law_size : Stmt := top 40
theorem sc_law_size : FnScope ["_law_piece", "_law_one"] ["_law_piece"] (defScope s_law_size) := ⟨rfl, rfl, rfl, by decide +kernel, rfl, by decide +kernel, by decide +kernel⟩
abbrev s_law_both : Stmt := top 41
theorem sc_law_both : FnScope ["_law_first", "_law_second", "_law_found", "_law_piece", "_law_last"] ["_law_first", "_law_second"] (defScope s_law_both) := ⟨rfl, rfl, rfl, by decide +kernel, rfl, by decide +kernel, by decide +kernel⟩
abbrev s_law_copies : Stmt := top 42
theorem sc_law_copies : FnScope ["_law_pieces_here", "_law_count"] ["_law_pieces_here", "_law_count"] (defScope s_law_copies) := ⟨rfl, rfl, rfl, by decide +kernel, rfl, by decide +kernel, by decide +kernel⟩
abbrev s_law_stretch : Stmt := top 43
theorem sc_law_stretch : FnScope ["_law_pieces_here", "_law_start_here", "_law_end_here", "_law_found", "_law_piece", "_law_size_here", "_law_first", "_law_last", "_law_inner", "_law_one", "_law_low", "_law_high"] ["_law_pieces_here", "_law_start_here", "_law_end_here"] (defScope s_law_stretch) := ⟨rfl, rfl, rfl, by decide +kernel, rfl, by decide +kernel, by decide +kernel⟩
abbrev s_law_gained : Stmt := top 44
theorem sc_law_gained : FnScope ["_law_pieces_here", "_law_gain", "_law_found", "_law_piece"] ["_law_pieces_here", "_law_gain"] (defScope s_law_gained) := ⟨rfl, rfl, rfl, by decide +kernel, rfl, by decide +kernel, by decide +kernel⟩
abbrev s_law_pieces : Stmt := top 45
theorem sc_law_pieces : FnScope ["_law_tree", "_law_first", "_law_size_here", "_law_piece", "_law_start_here", "_law_end_here"] ["_law_tree"] (defScope s_law_pieces) := ⟨rfl, rfl, rfl, by decide +kernel, rfl, by decide +kernel, by decide +kernel⟩
abbrev s_law : Stmt := top 46
theorem sc_law : FnScope ["_law_script", "_law_k", "_law_pool_here", "_law_tree", "_law_clip_here", "_law_due", "_law_piece", "_law_other", "_law_start_here", "_law_end_here"] ["_law_script"] (defScope s_law) := ⟨rfl, rfl, rfl, by decide +kernel, rfl, by decide +kernel, by decide +kernel⟩
/-- a def of the module as it stands behind the top; a method -/
structure Df (K : Frg) (mg : Str → Option Value) (x : Str) (st : Stmt) (ps : List Str) where
  f : Addr
  fd : FuncData
  F : Fun K x x st f fd
  b : Binds K fd ps []
  m : mg x = some (.ref f)
structure Mf (K : Frg) (x qual : Str) (st : Stmt) (ps : List Str) where
  f : Addr
  fd : FuncData
  F : Fun K x qual st f fd
  b : Binds K fd ps []
/-- a def with defaults, called with all its arguments -/
structure FunV (K : Frg) (x qual : Str) (st : Stmt) (f : Addr) (fd : FuncData) : Prop where
  ex : ∃ (oc : Value) (od : Option Addr) (dV kV doc pm : Value) (an : Option Addr) (cdv ct : Value) (osl : Array (Option Value)),
    fd = PySem.W.fnOf x qual (defArgs st) (defBody st) (defScope st) dV kV doc pm an cdv ct ∧ K.lookup f = some ⟨oc, od, .func fd, osl⟩ ∧ PySem.W.codeIn K cdv qual = true
theorem FunV.ok {P : Program} {w : World} {K : Frg} {mg : Str → Option Value} {base : Heap} {x qual : Str} {st : Stmt} {f : Addr} {fd : FuncData} {N ps : List Str} {k : Nat} {sp : Sp} (F : FunV K x qual st f fd) (S : FnScope N ps (defScope st)) (len : ∀ vs H Q E, sp vs H Q E → vs.length = ps.length)
    (hbody : ∀ (cdv : Value) (A : Around) (outer : List Env) (s : Shared) (H : Hp) (vs : List V) (Q : VK) (E : XK), Room k (A.deeper (PyProof.Rows.envOfC qual (defScope st) s.heap.objs.size f cdv)) → sp vs H Q E →
      ∃ t, PSs (cxOf CX0 P w K mg base N qual (defScope st) f cdv A outer s H E).nox (defBody st) t ∧ t { nx := fun _ H' => Q .non H', rt := Q } (start N vs) H) : FnOk P w K mg base CX0 (k + 1) f fd ps sp := by
  obtain ⟨oc, od, dV, kV, doc, pm, an, cdv, ct, osl, rfl, lk, hcd⟩ := F.ex
  refine fn_of lk hcd S len fun A outer s H vs Q E hr hsp => ?_
  obtain ⟨t, h, q⟩ := hbody cdv A outer s H vs Q E hr hsp
  exact ⟨t, h.nox, q⟩
structure Mi (K : Frg) (qual : Str) (x : Str) (st : Stmt) (ps : List Str) where
  f : Addr
  fd : FuncData
  F : FunV K x qual st f fd
  b : Binds K fd ps []
structure Gv (mg : Str → Option Value) (x : Str) (n : Int) where
  t : Tok
  m : mg x = some (.int n t)
/-- cut(end = e, start = s) -/
def gqCut : List Value → List Value → List Value
  | [x], [e, s] => [x, s, e]
  | _, _ => []
def gvCut : List V → List V → List V
  | [x], [e, s] => [x, s, e]
  | _, _ => []
structure Tx (K : Frg) (mg : Str → Option Value) where
  is_integer : Df K mg "is_integer" s_is_integer ["value"]
  is_between : Df K mg "is_between" s_is_between ["value", "least", "most"]
  is_row : Df K mg "is_row" s_is_row ["value"]
  is_name : Df K mg "is_name" s_is_name ["value"]
  require_sound : Df K mg "require_sound" s_require_sound ["sound"]
  piece_length : Df K mg "piece_length" s_piece_length ["piece"]
  total_length : Df K mg "total_length" s_total_length ["pieces"]
  piece_count : Df K mg "piece_count" s_piece_count ["pieces"]
  merged : Df K mg "merged" s_merged ["first", "second"]
  both_pieces : Df K mg "both_pieces" s_both_pieces ["first", "second"]
  repeated_pieces : Df K mg "repeated_pieces" s_repeated_pieces ["pieces", "count"]
  cut_repeat : Df K mg "cut_repeat" s_cut_repeat ["piece", "start", "end"]
  cut_piece : Df K mg "cut_piece" s_cut_piece ["piece", "start", "end"]
  cut_pieces : Df K mg "cut_pieces" s_cut_pieces ["pieces", "start", "end"]
  gained_pieces : Df K mg "gained_pieces" s_gained_pieces ["pieces", "gain"]
  c_init : Mi K "Clip.__init__" "__init__" s_c_init ["self", "pieces"]
  c_part : Mf K "part" "Clip.part" s_c_part ["name", "start", "end"]
  c_silence : Mf K "silence" "Clip.silence" s_c_silence ["count"]
  c_samples : Mf K "samples" "Clip.samples" s_c_samples ["sound"]
  c_length : Mf K "length" "Clip.length" s_c_length ["self"]
  c_pieces : Mf K "pieces" "Clip.pieces" s_c_pieces ["self"]
  c_require_stretch : Mf K "require_stretch" "Clip.require_stretch" s_c_require_stretch ["self", "start", "end"]
  c_cut : Mf K "cut" "Clip.cut" s_c_cut ["self", "start", "end"]
  c_gained : Mf K "gained" "Clip.gained" s_c_gained ["self", "top", "bottom"]
  c_add : Mf K "__add__" "Clip.__add__" s_c_add ["self", "other"]
  c_mul : Mf K "__mul__" "Clip.__mul__" s_c_mul ["self", "other"]
  c_eq : Mf K "__eq__" "Clip.__eq__" s_c_eq ["self", "other"]
  law_pool : Df K mg "_law_pool" s_law_pool ["_law_script", "_law_k"]
  law_take : Df K mg "_law_take" s_law_take ["_law_pool_here", "_law_many"]
  law_clip : Df K mg "_law_clip" s_law_clip ["_law_pool_here", "_law_depth", "_law_lengths"]
  law_made : Df K mg "_law_made" s_law_made ["_law_tree"]
  law_size : Df K mg "_law_size" s_law_size ["_law_piece"]
  law_both : Df K mg "_law_both" s_law_both ["_law_first", "_law_second"]
  law_copies : Df K mg "_law_copies" s_law_copies ["_law_pieces_here", "_law_count"]
  law_stretch : Df K mg "_law_stretch" s_law_stretch ["_law_pieces_here", "_law_start_here", "_law_end_here"]
  law_gained : Df K mg "_law_gained" s_law_gained ["_law_pieces_here", "_law_gain"]
  law_pieces : Df K mg "_law_pieces" s_law_pieces ["_law_tree"]
  C : Addr
  cl : Cls K C
  mgC : mg "Clip" = some (.ref C)
  mkC : Mk K C c_init.f
  rd : ClX.CRead K C (.type "type")
  sf : PySem.W.selfFirst K C = true
  nP : NoAttr K C "own_pieces"
  nL : NoAttr K C "own_length"
  pl : Addr
  p_length : PropOf K C "length" pl c_length.f
  ps1 : Addr
  ps2 : Addr
  ps3 : Addr
  s_part : SMet K C "part" ps1 c_part.f
  s_silence : SMet K C "silence" ps2 c_silence.f
  s_samples : SMet K C "samples" ps3 c_samples.f
  h_pieces : Meth K C "pieces" c_pieces.f
  h_require_stretch : Meth K C "require_stretch" c_require_stretch.f
  h_cut : Meth K C "cut" c_cut.f
  h_gained : Meth K C "gained" c_gained.f
  a_add : PySem.W.findIn K (.ref C) "__add__" = some (some (.ref c_add.f))
  i_add : PySem.W.isFn K (.ref c_add.f) = true
  a_mul : PySem.W.findIn K (.ref C) "__mul__" = some (some (.ref c_mul.f))
  i_mul : PySem.W.isFn K (.ref c_mul.f) = true
  a_rmul : PySem.W.findIn K (.ref C) "__rmul__" = some none
  u_mul : Option Value
  t_mul : PySem.W.findIn K (.type "int") "__mul__" = some u_mul
  u_rmul : Option Value
  t_rmul : PySem.W.findIn K (.type "int") "__rmul__" = some u_rmul
  t_sub : PySem.W.subIn K (.type "int") (.ref C) = some false
  a_eq : PySem.W.findIn K (.ref C) "__eq__" = some (some (.ref c_eq.f))
  i_eq : PySem.W.isFn K (.ref c_eq.f) = true
  hcl : PySem.W.findIn K (.ref C) "__class__" = some (some (.builtin "object.__class__"))
  kit : PySem.W.kitOne K (.ref C) (.ref C) = some true
  q_cls : PySem.W.specialIn K (.builtin "object.__class__") "__get__" = some (some (.builtin "getset_descriptor.__get__"))
  t_cls : PySem.W.takesIn K (.builtin "object.__class__") = some true
  m_obj : PySem.W.mroIn K C (.type "object") = some true
  kb_cut : KBinds K c_cut.fd ["self", "start", "end"] ["end", "start"] gqCut gvCut
  g_COUNT : Gv mg "MAX_COUNT" (10 ^ 30)
  g_LENGTH : Gv mg "MAX_LENGTH" (10 ^ 40)
  g_PIECES : Gv mg "MAX_PIECES" 200
  g_GAIN : Gv mg "MAX_GAIN" 1000
  g_NAME : Gv mg "MAX_NAME" 8
  lt : Tok
  m_LETTERS : mg "LETTERS" = some (.str "abcdefghijklmnopqrstuvwxyz" lt)
  n_len : mg "len" = none
  n_sum : mg "sum" = none
  n_max : mg "max" = none
  n_min : mg "min" = none
  n_tuple : mg "tuple" = none
  n_list : mg "list" = none
  n_sorted : mg "sorted" = none
  n_all : mg "all" = none
  n_isinstance : mg "isinstance" = none
  n_int : mg "int" = none
  n_bool : mg "bool" = none
  n_str : mg "str" = none
  n_range : mg "range" = none
  n_enumerate : mg "enumerate" = none
theorem Tx.m_MAX_COUNT {K : Frg} {mg : Str → Option Value} (T : Tx K mg) : mg "MAX_COUNT" = some (.int (10 ^ 30) T.g_COUNT.t) := T.g_COUNT.m
theorem Tx.m_MAX_LENGTH {K : Frg} {mg : Str → Option Value} (T : Tx K mg) : mg "MAX_LENGTH" = some (.int (10 ^ 40) T.g_LENGTH.t) := T.g_LENGTH.m
theorem Tx.m_MAX_PIECES {K : Frg} {mg : Str → Option Value} (T : Tx K mg) : mg "MAX_PIECES" = some (.int 200 T.g_PIECES.t) := T.g_PIECES.m
theorem Tx.m_MAX_GAIN {K : Frg} {mg : Str → Option Value} (T : Tx K mg) : mg "MAX_GAIN" = some (.int 1000 T.g_GAIN.t) := T.g_GAIN.m
theorem Tx.m_MAX_NAME {K : Frg} {mg : Str → Option Value} (T : Tx K mg) : mg "MAX_NAME" = some (.int 8 T.g_NAME.t) := T.g_NAME.m
end Cl

/-! part W1 -/
namespace Cl
open PySem L2
section
variable {P : Program} {w : World} {K : Frg} {mg : Str → Option Value} {base : Heap} (T : Tx K mg)
def R_is_integer (ds : List PyData) (d : PyData) : Prop := ∃ i : Int, ds = [.int i] ∧ d = .bool true
theorem ok_is_integer : FnOk P w K mg base CX0 1 T.is_integer.f T.is_integer.fd ["value"] (spD K R_is_integer) := by
  refine ok_D T.is_integer.F sc_is_integer (fun ds d ⟨_, e, _⟩ => by rw [e]; rfl) (fun cdv A outer s H E hr => ⟨_, (pss_one (ps_ret (pe_and (pe_callB call_isi (by rfl) T.n_isinstance (by decide +kernel) (pa_cons (pv 0) (pa_cons (pe_bltn (v := .ty "int") (by rfl) T.n_int (by decide +kernel) rfl) pa_nil))) (pe_one (pe_not (pe_callB call_isi (by rfl) T.n_isinstance (by decide +kernel) (pa_cons (pv 0) (pa_cons (pe_bltn (v := .ty "bool") (by rfl) T.n_bool (by decide +kernel) rfl) pa_nil)))))))), ?_⟩)
  rintro ds d ⟨i, rfl, rfl⟩ D H0 r
  exact s_retD (ev_andV (ev_isi (ev_var rfl) ev_c kit_ii) fun _ => ev_notV (ev_isi (ev_var rfl) ev_c kit_ib)) r.1
def R_is_between (ds : List PyData) (d : PyData) : Prop := ∃ a b c : Int, ds = [.int a, .int b, .int c] ∧ d = .bool (decide (b ≤ a) && decide (a ≤ c))
theorem ok_is_between : FnOk P w K mg base CX0 2 T.is_between.f T.is_between.fd ["value", "least", "most"] (spD K R_is_between) := by
  have G_is_integer := ok_is_integer (P := P) (w := w) (base := base) T
  refine ok_D T.is_between.F sc_is_between (fun ds d ⟨_, _, _, e, _⟩ => by rw [e]; rfl) (fun cdv A outer s H E hr => ⟨_, (pss_one (ps_ret (pe_and (pe_call G_is_integer (hr.mono (by omega)) rfl T.is_integer.m T.is_integer.F.kp T.is_integer.b .nil pass0 (pa_cons (pv 0) pa_nil)) (pe_one (pe_chain op_le op_le (pv 1) (pv 0) (pv 2)))))), ?_⟩)
  rintro ds d ⟨a, b, c, rfl, rfl⟩ D H0 r
  exact s_retD (ev_andV (a := true) (ev_call (ead_cons (ev_var rfl) ead_nil) ⟨a, rfl, rfl⟩ rfl) fun _ => ev_chain (ev_var rfl) (ev_var rfl) (ev_var rfl)) r.1
def R_is_row (ds : List PyData) (d : PyData) : Prop := ∃ xs : List PyData, ds = [.list xs] ∧ d = .bool true
theorem ok_is_row : FnOk P w K mg base CX0 1 T.is_row.f T.is_row.fd ["value"] (spD K R_is_row) := by
  refine ok_D T.is_row.F sc_is_row (fun ds d ⟨_, e, _⟩ => by rw [e]; rfl) (fun cdv A outer s H E hr => ⟨_, (pss_one (ps_ret (pe_callB call_isiT (by rfl) T.n_isinstance (by decide +kernel) (pa_cons (pv 0) (pa_cons (pe_tup (pa_cons (pe_bltn (v := .ty "list") (by rfl) T.n_list (by decide +kernel) rfl) (pa_cons (pe_bltn (v := .ty "tuple") (by rfl) T.n_tuple (by decide +kernel) rfl) pa_nil))) pa_nil))))), ?_⟩)
  rintro ds d ⟨xs, rfl, rfl⟩ D H0 r
  exact s_retD (ev_isiT (ev_var rfl) kit_ll kit_lt) r.1
def R_require_sound (ds : List PyData) (d : PyData) : Prop := ∃ xs : List Int, ds = [.list (ids xs)] ∧ d = .none
theorem ok_require_sound : FnOk P w K mg base CX0 2 T.require_sound.f T.require_sound.fd ["sound"] (spD K R_require_sound) := by
  have G_is_integer := ok_is_integer (P := P) (w := w) (base := base) T
  have G_is_row := ok_is_row (P := P) (w := w) (base := base) T
  refine ok_D T.require_sound.F sc_require_sound (fun ds d ⟨_, e, _⟩ => by rw [e]; rfl) (fun cdv A outer s H E hr => ⟨_, (pss_cons (ps_if (pt_not (pt_val (pe_call G_is_row (hr.mono (by omega)) rfl T.is_row.m T.is_row.F.kp T.is_row.b .nil pass0 (pa_cons (pv 0) pa_nil)))) (pss_one ps_never) pss_nil)
      (pss_one (ps_for PassesOwn.never rfl (pi_enum (by rfl) T.n_enumerate (pa_cons (pv 0) pa_nil)) (pg_tup rfl (pgs_cons (pg_name (i := 1) sc_require_sound.nd rfl (Or.inl rfl)) (pgs_cons (pg_name (i := 2) sc_require_sound.nd rfl (Or.inl rfl)) pgs_nil))) (pss_one (ps_if (pt_not (pt_val (pe_call G_is_integer (hr.mono (by omega)) rfl T.is_integer.m T.is_integer.F.kp T.is_integer.b .nil pass0 (pa_cons (pv 2) pa_nil)))) (pss_one ps_never) pss_nil))))), ?_⟩)
  rintro ds d ⟨xs, rfl, rfl⟩ D H0 r
  refine q_ifF (et_not (a := true) (et_B (ev_call (ead_cons (ev_var rfl) ead_nil) ⟨_, rfl, rfl⟩ rfl))) ?_
  refine s_forE (dls K [some (.list (ids xs)), none, none]) (ea_cons (ev_var rfl) ea_nil) (Sub.refl _) (fun i d H1 hd => ?_) (s_endN r)
  obtain ⟨x, rfl⟩ : ∃ x : Int, d = .int x := by
    obtain ⟨x, _, e⟩ := List.mem_map.mp (List.mem_of_getElem? hd)
    exact ⟨x, e.symm⟩
  refine s_ifF (et_not (a := true) (et_B (ev_call (ead_cons (ev_var rfl) ead_nil) ⟨_, rfl, rfl⟩ rfl))) ?_
  exact s_endE (sub_s (sub_n (sub_n sub_nil)))
end
end Cl

/-! part W2 -/
namespace Cl
open PySem L2
section
variable {K : Frg} {m : Mo} {δ : Dl m} {c : List PyData} {ta tb tl te : TE} {x y : Str} {b : Bool}
theorem w_eq (x : Str) : decide (x = x) = true := decide_eq_true rfl
theorem et_word (h : Ev K ta δ c (Dd K (.str x))) (hb : Ev K tb δ c (Dd K (.str y))) (hd : decide (x = y) = b) : EvT K (tTest (tOp rEq ta tb)) δ c b := (et_of (ev_eq h hb rfl)).to hd
theorem ev_lcS {j : Nat} {bs : List Bool} (h : Ev K tl δ c (Dd K (.str x))) (hn : x.cps.size ≤ 1000) (hbs : bs.length = x.cps.size)
    (he : ∀ (i ch : Nat) (b : Bool), x.cps[i]? = some ch → bs[i]? = some b → Ev K te ((δ.set j none).set j (some (Dd K (.str ⟨#[ch]⟩)))) c (Dd K (.bool b))) :
    Ev K (tLc (iStr tl) (gName j) tYes te [j]) δ c (Dd K (.list (bs.map .bool))) := fun σ H Q s q =>
  h σ H _ s fun v H1 l1 p => by
    cases p
    refine ⟨x, rfl, lc_go (n := x.cps.size) (ok := fun i e => (bs.map PyData.bool)[i]? = some e) (its := fun i => .str ⟨#[x.cps.getD i 0]⟩) (s.mono l1) (by omega) (fun i H l hi => hi) (fun H l => Nat.le_refl _) (fun i H x' H' l hi y => ?_) (fun i e he => ?_) (fun i hi => ?_) fun v H' l ⟨es, h1, h2⟩ => q v H' (l1.trans l) ?_⟩
    · obtain ⟨e, ch, hch, rfl⟩ := y
      refine ⟨e, ?_⟩
      have : x.cps.getD i 0 = ch := by rw [Array.getD_eq_getD_getElem?, hch]; rfl
      rw [this]
      exact .str _
    · obtain ⟨b, _, rfl⟩ := List.mem_map.mp (List.mem_of_getElem? he)
      rfl
    · have hi2 : i < bs.length := by rw [hbs]; exact hi
      have e1 : x.cps[i]? = some (x.cps.getD i 0) := by rw [Array.getD_eq_getD_getElem?, Array.getElem?_eq_getElem hi]; rfl
      exact (he i _ bs[i] e1 (List.getElem?_eq_getElem hi2)).imp fun v H p => ⟨_, by rw [List.getElem?_map, List.getElem?_eq_getElem hi2]; rfl, p⟩
    · rw [okEs_one (by rw [List.length_map, hbs]) h1] at h2
      exact h2
theorem ev_inS {ch : Nat} (h : Ev K ta δ c (Dd K (.str ⟨#[ch]⟩))) (hb : Ev K tb δ c (Dd K (.str y))) :
    Ev K (tOp (fun x y H Q => ∃ (c : Nat) (z : Str), x = .str ⟨#[c]⟩ ∧ y = .str z ∧ Q (.bl (decide (c ∈ z.cps.toList))) H) ta tb) δ c (Dd K (.bool (decide (ch ∈ y.cps.toList)))) :=
  ev_op h hb fun x y H Q w hx hy q => by
    cases hx
    cases hy
    exact ⟨_, _, rfl, rfl, q _ H (Le.refl H) (.bl _)⟩
end
section
variable {P : Program} {w : World} {K : Frg} {mg : Str → Option Value} {base : Heap}
theorem fn_none {f : Addr} {fd : FuncData} {ps : List Str} {R : List PyData → PyData → Prop} (h : ∀ ds d, ¬ R ds d) : FnOk P w K mg base CX0 0 f fd ps (spD K R) := by
  have no : ∀ vs H Q E, ¬ spD K R vs H Q E := fun vs H Q E ⟨ds, d, _, hR, _⟩ => h ds d hR
  exact ⟨fun vs H Q E h => absurd h (no vs H Q E), fun A outer s H args us vs Q E _ _ _ _ h => absurd h (no vs H Q E)⟩
variable (T : Tx K mg)
def R_is_name (ds : List PyData) (d : PyData) : Prop := ∃ n : Bool, ds = [.str (nmS n)] ∧ d = .bool true
def LETT : Str := "abcdefghijklmnopqrstuvwxyz"
theorem nm_facts (n : Bool) : (nmS n).length = 1 ∧ (nmS n).cps.size = 1 ∧ ∀ (i ch : Nat), (nmS n).cps[i]? = some ch → ch ∈ LETT.cps.toList := by
  have h : ∀ n : Bool, (nmS n).length = 1 ∧ (nmS n).cps.size = 1 ∧ ∀ ch ∈ (nmS n).cps.toList, ch ∈ LETT.cps.toList := by decide +kernel
  refine ⟨(h n).1, (h n).2.1, fun i ch hc => (h n).2.2 ch ?_⟩
  rw [← Array.getElem?_toList] at hc
  exact List.mem_of_getElem? hc
theorem ok_is_name : FnOk P w K mg base CX0 1 T.is_name.f T.is_name.fd ["value"] (spD K R_is_name) := by
  refine ok_D T.is_name.F sc_is_name (fun ds d ⟨_, e, _⟩ => by rw [e]; rfl) (fun cdv A outer s H E hr => ⟨_, (pss_one (ps_ret (pe_and (pe_callB call_isi (by rfl) T.n_isinstance (by decide +kernel) (pa_cons (pv 0) (pa_cons (pe_bltn (v := .ty "str") (by rfl) T.n_str (by decide +kernel) rfl) pa_nil))) (pe_and (pe_chain op_le op_le pe_int (pe_callB call_len_str (by rfl) T.n_len (by decide +kernel) (pa_cons (pv 0) pa_nil)) (pe_glob (v := .int 8) (by rfl) T.m_MAX_NAME ⟨_, rfl⟩)) (pe_one (pe_callB (cr_all rfl) (by rfl) T.n_all (by decide +kernel) (pa_cons (pe_lc (own := [("sign", 1)]) (g := gName 1) (tt := tYes) (by rfl) sc_is_name.nd (pi_str (pv 0)) (blkOk_by (own := [("sign", 1)]) (N := ["value", "sign"]) (sc := defScope s_is_name) (by decide +kernel)) (fun _ _ _ _ _ => pg_name (i := 1) sc_is_name.nd rfl (Or.inl rfl)) (fun _ _ _ _ _ => pts_nil) (fun _ _ _ _ _ => (pe_cmpR op_in_sign (pv 1) (pe_glob (v := .str "abcdefghijklmnopqrstuvwxyz") (by rfl) T.m_LETTERS ⟨_, rfl⟩) rfl))) pa_nil))))))), ?_⟩)
  rintro ds d ⟨n, rfl, rfl⟩ D H0 r
  have nf := nm_facts n
  refine s_retD ?_ r.1
  refine (ev_andV (a := true) (b := true) (ev_isi (ev_var rfl) ev_c kit_ss) fun _ => ?_)
  have e1 : (decide ((1 : Int) ≤ ((nmS n).length : Int)) && decide (((nmS n).length : Int) ≤ 8)) = true := by rw [nf.1]; decide
  have c1 := ev_chain (K := K) (m := .non) (c := []) (δ := dls K (startD ["value", "sign"] [.str (nmS n)])) (f := fun i j => decide (i ≤ j)) (g := fun i j => decide (i ≤ j)) (ev_int (i := 1)) (ev_lenS (ev_var (i := 0) rfl) (by rw [nf.1]; decide)) (ev_int (i := 8))
  rw [e1] at c1
  refine ev_andV (a := true) (b := true) c1 fun _ => ?_
  refine ev_all (bs := [true]) (ev_lcS (ev_var rfl) (by rw [nf.2.1]; decide) (by rw [nf.2.1]; rfl) fun i ch b hc hb => ?_)
  have q := ev_inS (K := K) (m := .non) (c := []) (δ := ((dls K (startD ["value", "sign"] [.str (nmS n)])).set 1 none).set 1 (some (Dd K (.str ⟨#[ch]⟩)))) (ev_var (i := 1) rfl) (ev_str (i := LETT))
  rw [decide_eq_true (nf.2.2 i ch hc)] at q
  have eb : b = true := by
    cases i with
    | zero => simpa using hb.symm
    | succ i => simp at hb
  subst eb
  exact q

/-! ### lengths -/
def R_pl (r : Nat) (ds : List PyData) (d : PyData) : Prop := ∃ p : Piece, ds = [pd p] ∧ okP p ∧ limP p 50 r ∧ plen p ≤ 1000000 ∧ d = .int (plen p)
def R_tl (r : Nat) (ds : List PyData) (d : PyData) : Prop := ∃ ps : List Piece, ds = [pt ps] ∧ okL ps ∧ (∃ q, r = q + 1 ∧ limL ps 50 q) ∧ total ps ≤ 1000000 ∧ d = .int (total ps)
theorem rep_len {k : Int} {ps : List Piece} (h : okP (.rep k ps)) : total ps ≤ plen (.rep k ps) ∧ k ≤ plen (.rep k ps) ∧ 0 < total ps := by
  simp only [okP, plen] at *
  have h1 := total_pos h.2.2.1 h.2.1
  have a : 1 * total ps ≤ k * total ps := Int.mul_le_mul_of_nonneg_right (by omega) (by omega)
  have b : k * 1 ≤ k * total ps := Int.mul_le_mul_of_nonneg_left (by omega) (by omega)
  omega
theorem ok_pl (r : Nat) (G_total_length : FnOk P w K mg base CX0 (2 * r) T.total_length.f T.total_length.fd ["pieces"] (spD K (R_tl r))) : FnOk P w K mg base CX0 (2 * r + 1) T.piece_length.f T.piece_length.fd ["piece"] (spD K (R_pl r)) := by
  refine ok_D T.piece_length.F sc_piece_length (fun ds d ⟨_, e, _⟩ => by rw [e]; rfl) (fun cdv A outer s H E hr => ⟨_, (pss_cons (ps_if (pt_cmpR op_eq (pe_ix ix_tup (pv 0) pe_int (fun _ _ => rfl)) pe_str (nomark _)) (pss_one (ps_ret (pe_op op_sub (pe_ix ix_tup (pv 0) pe_int (fun _ _ => rfl)) (pe_ix ix_tup (pv 0) pe_int (fun _ _ => rfl))))) pss_nil)
      (pss_cons (ps_if (pt_cmpR op_eq (pe_ix ix_tup (pv 0) pe_int (fun _ _ => rfl)) pe_str (nomark _)) (pss_one (ps_ret (pe_ix ix_tup (pv 0) pe_int (fun _ _ => rfl)))) pss_nil)
      (pss_cons (ps_if (pt_cmpR op_eq (pe_ix ix_tup (pv 0) pe_int (fun _ _ => rfl)) pe_str (nomark _)) (pss_one (ps_ret (pe_callB call_len_seq (by rfl) T.n_len (by decide +kernel) (pa_cons (pe_ix ix_tup (pv 0) pe_int (fun _ _ => rfl)) pa_nil)))) pss_nil)
      (pss_one (ps_ret (pe_op op_mul (pe_ix ix_tup (pv 0) pe_int (fun _ _ => rfl)) (pe_call G_total_length (hr.mono (by omega)) rfl T.total_length.m T.total_length.F.kp T.total_length.b .nil pass0 (pa_cons (pe_ix ix_tup (pv 0) pe_int (fun _ _ => rfl)) pa_nil)))))))), ?_⟩)
  rintro ds d ⟨p, rfl, hok, hlim, hb, rfl⟩ D H0 rr
  cases p with
  | part n s e g => exact q_ifT (et_word (ev_ix (ev_var rfl) ev_int rfl) ev_str (w_eq _)) (s_retD (ev_sub (ev_ix (ev_var rfl) ev_int rfl) (ev_ix (ev_var rfl) ev_int rfl)) rr.1)
  | sil n => exact q_ifF (et_word (ev_ix (ev_var rfl) ev_int rfl) ev_str w_sp) (q_ifT (et_word (ev_ix (ev_var rfl) ev_int rfl) ev_str (w_eq _)) (s_retD (ev_ix (ev_var rfl) ev_int rfl) rr.1))
  | smp xs g =>
    refine q_ifF (et_word (ev_ix (ev_var rfl) ev_int rfl) ev_str w_mp) (q_ifF (et_word (ev_ix (ev_var rfl) ev_int rfl) ev_str w_ms) (q_ifT (et_word (ev_ix (ev_var rfl) ev_int rfl) ev_str (w_eq _)) (s_retD (d := .int (plen (.smp xs g))) ?_ rr.1)))
    have e : plen (.smp xs g) = ((ids xs).length : Int) := by simp [plen, ids]
    rw [e]
    exact ev_lenT (ev_ix (ev_var rfl) ev_int rfl)
  | rep k ps =>
    have hl := rep_len hok
    refine q_ifF (et_word (ev_ix (ev_var rfl) ev_int rfl) ev_str w_rp) (q_ifF (et_word (ev_ix (ev_var rfl) ev_int rfl) ev_str w_rs) (q_ifF (et_word (ev_ix (ev_var rfl) ev_int rfl) ev_str w_rm) (s_retD (d := .int (plen (.rep k ps))) ?_ rr.1)))
    simp only [okP] at hok
    refine ev_mul (ev_ix (ev_var rfl) ev_int rfl) (ev_call (ead_cons (ev_ix (ev_var rfl) ev_int rfl) ead_nil) ⟨ps, rfl, hok.2.2.1, ?_, by omega, rfl⟩ rfl) (.inl ⟨by omega, by omega⟩)
    simp only [limP] at hlim
    exact hlim
theorem sum_total (ps : List Piece) : (ps.map plen).sum = total ps := by
  induction ps with
  | nil => rfl
  | cons p r ih => rw [List.map_cons, List.sum_cons, ih]; rfl
theorem okL_mem : ∀ {ps : List Piece} {p : Piece}, okL ps → p ∈ ps → okP p
  | _ :: _, _, h, .head _ => h.1
  | _ :: _, _, h, .tail _ q => okL_mem h.2 q
theorem limL_mem {c r : Nat} : ∀ {ps : List Piece} {p : Piece}, limL ps c r → p ∈ ps → limP p c r
  | _ :: _, _, h, .head _ => h.1
  | _ :: _, _, h, .tail _ q => limL_mem h.2 q
theorem plen_mem : ∀ {ps : List Piece} {p : Piece}, okL ps → p ∈ ps → plen p ≤ total ps
  | _ :: ps, _, h, .head _ => by
    have := total_nn h.2
    simp only [total]
    omega
  | q :: ps, _, h, .tail _ m => by
    have := plen_mem h.2 m
    have := plen_pos q h.1
    simp only [total]
    omega
theorem ok_tl (r : Nat) (G_piece_length : FnOk P w K mg base CX0 (2 * r + 1) T.piece_length.f T.piece_length.fd ["piece"] (spD K (R_pl r))) : FnOk P w K mg base CX0 (2 * r + 1 + 1) T.total_length.f T.total_length.fd ["pieces"] (spD K (R_tl (r + 1))) := by
  refine ok_D T.total_length.F sc_total_length (fun ds d ⟨_, e, _⟩ => by rw [e]; rfl) (fun cdv A outer s H E hr => ⟨_, (pss_one (ps_ret (pe_callB (cr_sum rfl) (by rfl) T.n_sum (by decide +kernel) (pa_cons (pe_lc (own := [("piece", 1)]) (g := gName 1) (tt := tYes) (by rfl) sc_total_length.nd (pi_tup (pv 0)) (blkOk_by (own := [("piece", 1)]) (N := ["pieces", "piece"]) (sc := defScope s_total_length) (by decide +kernel)) (fun _ _ _ _ _ => pg_name (i := 1) sc_total_length.nd rfl (Or.inl rfl)) (fun _ _ _ _ _ => pts_nil) (fun _ _ _ _ _ => (pe_call G_piece_length (hr.mono (by omega)) rfl T.piece_length.m T.piece_length.F.kp T.piece_length.b .nil pass0 (pa_cons (pv 1) pa_nil)))) pa_nil)))), ?_⟩)
  rintro ds d ⟨ps, rfl, hok, ⟨q, hq, hlim⟩, hb, rfl⟩ D H0 rr
  have hq' : q = r := by omega
  subst hq'
  refine s_retD (d := .int (total ps)) ?_ rr.1
  rw [← sum_total]
  refine ev_sum (ev_lcT (ev_var rfl) ?_ (lf_ids _) ?_ fun i d e hd he => ?_)
  · rw [pds_length]
    have := total_ge ps hok
    omega
  · rw [pds_length]
    simp [ids]
  · obtain ⟨p, hp, rfl⟩ := pds_get hd
    have hm := List.mem_of_getElem? hp
    have e2 : e = .int (plen p) := by
      unfold ids at he
      rw [List.getElem?_map, List.getElem?_map, hp] at he
      exact (Option.some.inj he).symm
    subst e2
    exact ev_call (ead_cons (ev_var rfl) ead_nil) ⟨p, rfl, okL_mem hok hm, limL_mem hlim hm, by have := plen_mem hok hm; omega, rfl⟩ rfl
theorem ok_pltl : ∀ r : Nat, FnOk P w K mg base CX0 (2 * r) T.total_length.f T.total_length.fd ["pieces"] (spD K (R_tl r)) ∧ FnOk P w K mg base CX0 (2 * r + 1) T.piece_length.f T.piece_length.fd ["piece"] (spD K (R_pl r))
  | 0 => by
    have h : FnOk P w K mg base CX0 0 T.total_length.f T.total_length.fd ["pieces"] (spD K (R_tl 0)) := fn_none fun ds d ⟨_, _, _, ⟨q, e, _⟩, _⟩ => by omega
    exact ⟨h, ok_pl T 0 h⟩
  | r + 1 => by
    have h := ok_tl T r (ok_pltl r).2
    exact ⟨h, ok_pl T (r + 1) h⟩
end
end Cl

/-! part W3 -/
namespace Cl
open PySem L2
section
variable {K : Frg} {m : Mo} {δ : Dl m} {c : List PyData} {ta tb tl te : TE}
theorem ev_neg {i : Int} (h : Ev K ta δ c (Dd K (.int i))) : Ev K (tUn (rU fun i => .int (-i)) ta) δ c (Dd K (.int (-i))) := fun σ H Q s q => h σ H _ s fun v H1 l p => by
  cases p
  exact ⟨i, rfl, q _ H1 l (.int _)⟩
theorem ix_tupK (K : Frg) {X : Cx} (h : X.K = K) : IxR X (rIxT K) := h ▸ ix_tup
theorem ev_eqI {i j : Int} (h : Ev K ta δ c (Dd K (.int i))) (hb : Ev K tb δ c (Dd K (.int j))) : Ev K (tOp rEq ta tb) δ c (Dd K (.bool (decide (i = j)))) := ev_eq h hb rfl
theorem et_int {i j : Int} {b : Bool} (h : Ev K ta δ c (Dd K (.int i))) (hb : Ev K tb δ c (Dd K (.int j))) (hd : decide (i = j) = b) : EvT K (tTest (tOp rEq ta tb)) δ c b := (et_of (ev_eqI h hb)).to hd
theorem atI_zero {α : Type} (x : α) (xs : List α) : atI (x :: xs) 0 = some x := atI_nat (j := 0) rfl
theorem ev_m1 : Ev K (m := m) (tUn (rU fun i => .int (-i)) (tC (.int 1))) δ c (Dd K (.int (-1))) := ev_neg ev_int
theorem cutD_init {α : Type} (xs : List α) (x : α) : cutD (xs ++ [x]) none (some (-1)) = xs := by
  unfold cutD HT.sIx
  simp
  rw [List.take_left' (by omega)]
theorem cutD_tail {α : Type} (x : α) (xs : List α) : cutD (x :: xs) (some 1) none = xs := by
  unfold cutD HT.sIx
  simp
theorem cutD_nat {α : Type} (xs : List α) (a b : Nat) (h1 : a ≤ xs.length) (h2 : b ≤ xs.length) : cutD xs (some (a : Int)) (some (b : Int)) = (xs.drop a).take (b - a) := by
  unfold cutD
  rw [HT.sIx_nat, HT.sIx_nat, Nat.min_eq_left h1, Nat.min_eq_left h2]
theorem both_len (xs ys : List Piece) : xs.length ≤ (both xs ys).length ∧ ys.length ≤ (both xs ys).length := by
  rcases snoc_of xs with h | ⟨i, x, h⟩
  · subst h
    exact ⟨Nat.zero_le _, Nat.le_refl _⟩
  · subst h
    rw [both_snoc]
    cases ys with
    | nil => simp [glue]
    | cons y r =>
      cases q : mrg x y with
      | none => rw [glue_cons_none q]; simp; omega
      | some z => rw [glue_cons_some q]; simp
end
section
variable {P : Program} {w : World} {K : Frg} {mg : Str → Option Value} {base : Heap} (T : Tx K mg)
/-! ### counts -/
def R_pc (r : Nat) (ds : List PyData) (d : PyData) : Prop := ∃ ps : List Piece, ds = [pt ps] ∧ okL ps ∧ (∃ q, r = q + 1 ∧ limL ps 50 q) ∧ total ps ≤ 1000000 ∧ d = .int (pcounts ps)
theorem sum_count (ps : List Piece) : (ps.map pcount).sum = pcounts ps := by
  induction ps with
  | nil => rfl
  | cons p r ih => rw [List.map_cons, List.sum_cons, ih]; rfl
theorem ok_piece_count : ∀ r : Nat, FnOk P w K mg base CX0 r T.piece_count.f T.piece_count.fd ["pieces"] (spD K (R_pc r))
  | 0 => fn_none fun ds d ⟨_, _, _, ⟨q, e, _⟩, _⟩ => by omega
  | r + 1 => by
    have G_piece_count := ok_piece_count r
    refine ok_D T.piece_count.F sc_piece_count (fun ds d ⟨_, e, _⟩ => by rw [e]; rfl) (fun cdv A outer s H E hr => ⟨_, (pss_one (ps_ret (pe_callB (cr_sum rfl) (by rfl) T.n_sum (by decide +kernel) (pa_cons (pe_lc (own := [("piece", 1)]) (g := gName 1) (tt := tYes) (by rfl) sc_piece_count.nd (pi_tup (pv 0)) (blkOk_by (own := [("piece", 1)]) (N := ["pieces", "piece"]) (sc := defScope s_piece_count) (by decide +kernel)) (fun _ _ _ _ _ => pg_name (i := 1) sc_piece_count.nd rfl (Or.inl rfl)) (fun _ _ _ _ _ => pts_nil) (fun _ _ _ _ _ => (pe_op op_add pe_int (pe_ifExp (pt_cmpR op_eq (pe_ix (ix_tupK K rfl) (pv 1) pe_int (fun _ _ => rfl)) pe_str (nomark _)) (pe_call G_piece_count (hr.mono (by omega)) rfl T.piece_count.m T.piece_count.F.kp T.piece_count.b .nil pass0 (pa_cons (pe_ix (ix_tupK K rfl) (pv 1) pe_int (fun _ _ => rfl)) pa_nil)) pe_int)))) pa_nil)))), ?_⟩)
    rintro ds d ⟨ps, rfl, hok, ⟨q, hq, hlim⟩, hb, rfl⟩ D H0 rr
    have hq' : q = r := by omega
    subst hq'
    refine s_retD (d := .int (pcounts ps)) ?_ rr.1
    rw [← sum_count]
    refine ev_sum (ev_lcT (ev_var rfl) ?_ (lf_ids _) ?_ fun i d e hd he => ?_)
    · rw [pds_length]
      have := total_ge ps hok
      omega
    · rw [pds_length]
      simp [ids]
    · obtain ⟨p, hp, rfl⟩ := pds_get hd
      have hm := List.mem_of_getElem? hp
      have e2 : e = .int (pcount p) := by
        unfold ids at he
        rw [List.getElem?_map, List.getElem?_map, hp] at he
        exact (Option.some.inj he).symm
      subst e2
      have hp1 := okL_mem hok hm
      have hp2 := limL_mem hlim hm
      have hp3 := plen_mem hok hm
      cases p with
      | part n s e g => exact ev_add ev_int (ev_ifF (et_word (ev_ix (ev_var rfl) ev_int rfl) ev_str w_pr) ev_int)
      | sil n => exact ev_add ev_int (ev_ifF (et_word (ev_ix (ev_var rfl) ev_int rfl) ev_str w_sr) ev_int)
      | smp xs g => exact ev_add ev_int (ev_ifF (et_word (ev_ix (ev_var rfl) ev_int rfl) ev_str w_mr) ev_int)
      | rep k qs =>
        have hl := rep_len hp1
        simp only [okP] at hp1
        simp only [limP] at hp2
        exact ev_add ev_int (ev_ifT (et_word (ev_ix (ev_var rfl) ev_int rfl) ev_str (w_eq _)) (ev_call (ead_cons (ev_ix (ev_var rfl) ev_int rfl) ead_nil) ⟨qs, rfl, hp1.2.2.1, hp2, by omega, rfl⟩ rfl))

/-! ### joining -/
def om : Option Piece → PyData
  | some z => pd z
  | none => .none
theorem lf_om (o : Option Piece) : LF (om o) = true := by
  cases o with
  | none => rfl
  | some z => exact lf_pd z
def R_mg (ds : List PyData) (d : PyData) : Prop := ∃ x y : Piece, ds = [pd x, pd y] ∧ d = om (mrg x y)
theorem nm_dec (n n' : Bool) : decide (nmS n = nmS n') = decide (n = n') := by
  rw [Bool.eq_iff_iff]
  simp [nm_inj]
theorem ok_merged : FnOk P w K mg base CX0 1 T.merged.f T.merged.fd ["first", "second"] (spD K R_mg) := by
  refine ok_D T.merged.F sc_merged (fun ds d ⟨_, _, e, _⟩ => by rw [e]; rfl) (fun cdv A outer s H E hr => ⟨_, (pss_cons (ps_if (PW.pt (pw_and (pt_cmpR op_eq (pe_ix ix_tup (pv 0) pe_int (fun _ _ => rfl)) pe_str (nomark _)) (pw_and1 (pt_cmpR op_eq (pe_ix ix_tup (pv 1) pe_int (fun _ _ => rfl)) pe_str (nomark _))))) (pss_one (ps_ret (pe_tup (pa_cons pe_str (pa_cons (pe_op op_add (pe_ix ix_tup (pv 0) pe_int (fun _ _ => rfl)) (pe_ix ix_tup (pv 1) pe_int (fun _ _ => rfl))) pa_nil))))) pss_nil)
      (pss_cons (ps_if (PW.pt (pw_and (pt_cmpR op_eq (pe_ix ix_tup (pv 0) pe_int (fun _ _ => rfl)) pe_str (nomark _)) (pw_and (pt_cmpR op_eq (pe_ix ix_tup (pv 1) pe_int (fun _ _ => rfl)) pe_str (nomark _)) (pw_and (pt_cmpR op_eq (pe_ix ix_tup (pv 0) pe_int (fun _ _ => rfl)) (pe_ix ix_tup (pv 1) pe_int (fun _ _ => rfl)) (nomark _)) (pw_and1 (pt_cmpR op_eq (pe_ix ix_tup (pv 0) pe_int (fun _ _ => rfl)) (pe_ix ix_tup (pv 1) pe_int (fun _ _ => rfl)) (nomark _))))))) (pss_one (ps_if (pt_cmpR (op_eqD hr.units) (pe_ix ix_tup (pv 0) pe_int (fun _ _ => rfl)) (pe_ix ix_tup (pv 1) pe_int (fun _ _ => rfl)) (nomark _)) (pss_one (ps_ret (pe_tup (pa_cons pe_str (pa_cons (pe_ix ix_tup (pv 0) pe_int (fun _ _ => rfl)) (pa_cons (pe_ix ix_tup (pv 0) pe_int (fun _ _ => rfl)) (pa_cons (pe_ix ix_tup (pv 1) pe_int (fun _ _ => rfl)) (pa_cons (pe_ix ix_tup (pv 0) pe_int (fun _ _ => rfl)) pa_nil)))))))) pss_nil)) pss_nil)
      (pss_one (ps_ret pe_non)))), ?_⟩)
  rintro ds d ⟨x, y, rfl, rfl⟩ D H0 rr
  cases x with
  | part n s e g =>
    refine q_ifF (et_andF (et_word (ev_ix (ev_var rfl) ev_int rfl) ev_str w_ps)) ?_
    cases y with
    | part n' s' e' g' =>
      refine q_if (b := decide (n = n') && decide (e = s')) (et_andT (et_word (ev_ix (ev_var rfl) ev_int rfl) ev_str (w_eq _)) (et_andT (et_word (ev_ix (ev_var rfl) ev_int rfl) ev_str (w_eq _))
        (et_and (et_word (ev_ix (ev_var rfl) ev_int rfl) (ev_ix (ev_var rfl) ev_int rfl) (nm_dec n n')) fun _ => et_int (ev_ix (ev_var rfl) ev_int rfl) (ev_ix (ev_var rfl) ev_int rfl) rfl))) (fun hb => ?_) (fun hb => ?_)
      · simp only [Bool.and_eq_true, decide_eq_true_eq] at hb
        obtain ⟨h1, h2⟩ := hb
        refine s_if (b := decide (g = g')) ((et_of (ev_eqD (ev_ix (ev_var rfl) ev_int rfl) (ev_ix (ev_var rfl) ev_int rfl) (sh_gd g) (sh_gd g'))).to (eqv_gd g g')) (fun hg => ?_) (fun hg => ?_)
        · have h3 := of_decide_eq_true hg
          subst h1 h2 h3
          have em : mrg (.part n s e g) (.part n e e' g) = some (.part n s e' g) := by simp [mrg]
          rw [em] at rr
          exact s_retD (ev_tupD (ead_cons ev_str (ead_cons (ev_ix (ev_var rfl) ev_int rfl) (ead_cons (ev_ix (ev_var rfl) ev_int rfl) (ead_cons (ev_ix (ev_var rfl) ev_int rfl) (ead_cons (ev_ix (ev_var rfl) ev_int rfl) ead_nil)))))) rr.1
        · have h3 := of_decide_eq_false hg
          have em : mrg (.part n s e g) (.part n' s' e' g') = none := by simp [mrg, h3]
          rw [em] at rr
          exact s_nx (s_retD ev_non rr.1)
      · have em : mrg (.part n s e g) (.part n' s' e' g') = none := by
          simp only [mrg]
          rw [if_neg]
          rintro ⟨h1, h2, _⟩
          simp [h1, h2] at hb
        rw [em] at rr
        exact s_retD ev_non rr.1
    | sil _ => exact q_ifF (et_andT (et_word (ev_ix (ev_var rfl) ev_int rfl) ev_str (w_eq _)) (et_andF (et_word (ev_ix (ev_var rfl) ev_int rfl) ev_str w_sp))) (s_retD ev_non rr.1)
    | smp _ _ => exact q_ifF (et_andT (et_word (ev_ix (ev_var rfl) ev_int rfl) ev_str (w_eq _)) (et_andF (et_word (ev_ix (ev_var rfl) ev_int rfl) ev_str w_mp))) (s_retD ev_non rr.1)
    | rep _ _ => exact q_ifF (et_andT (et_word (ev_ix (ev_var rfl) ev_int rfl) ev_str (w_eq _)) (et_andF (et_word (ev_ix (ev_var rfl) ev_int rfl) ev_str w_rp))) (s_retD ev_non rr.1)
  | sil a =>
    have t2 : ∀ y : Piece, (∀ b, y ≠ .sil b) → mrg (.sil a) y = none := fun y hy => by
      cases y with
      | sil b => exact absurd rfl (hy b)
      | _ => rfl
    cases y with
    | sil b => exact q_ifT (et_andT (et_word (ev_ix (ev_var rfl) ev_int rfl) ev_str (w_eq _)) (et_word (ev_ix (ev_var rfl) ev_int rfl) ev_str (w_eq _))) (s_retD (ev_tupD (ead_cons ev_str (ead_cons (ev_add (ev_ix (ev_var rfl) ev_int rfl) (ev_ix (ev_var rfl) ev_int rfl)) ead_nil))) rr.1)
    | part _ _ _ _ => exact q_ifF (et_andT (et_word (ev_ix (ev_var rfl) ev_int rfl) ev_str (w_eq _)) (et_word (ev_ix (ev_var rfl) ev_int rfl) ev_str w_ps)) (q_ifF (et_andF (et_word (ev_ix (ev_var rfl) ev_int rfl) ev_str w_sp)) (s_retD ev_non rr.1))
    | smp _ _ => exact q_ifF (et_andT (et_word (ev_ix (ev_var rfl) ev_int rfl) ev_str (w_eq _)) (et_word (ev_ix (ev_var rfl) ev_int rfl) ev_str w_ms)) (q_ifF (et_andF (et_word (ev_ix (ev_var rfl) ev_int rfl) ev_str w_sp)) (s_retD ev_non rr.1))
    | rep _ _ => exact q_ifF (et_andT (et_word (ev_ix (ev_var rfl) ev_int rfl) ev_str (w_eq _)) (et_word (ev_ix (ev_var rfl) ev_int rfl) ev_str w_rs)) (q_ifF (et_andF (et_word (ev_ix (ev_var rfl) ev_int rfl) ev_str w_sp)) (s_retD ev_non rr.1))
  | smp xs g =>
    have em : mrg (.smp xs g) y = none := by cases y <;> rfl
    rw [em] at rr
    exact q_ifF (et_andF (et_word (ev_ix (ev_var rfl) ev_int rfl) ev_str w_ms)) (q_ifF (et_andF (et_word (ev_ix (ev_var rfl) ev_int rfl) ev_str w_mp)) (s_retD ev_non rr.1))
  | rep k ps =>
    have em : mrg (.rep k ps) y = none := by cases y <;> rfl
    rw [em] at rr
    exact q_ifF (et_andF (et_word (ev_ix (ev_var rfl) ev_int rfl) ev_str w_rs)) (q_ifF (et_andF (et_word (ev_ix (ev_var rfl) ev_int rfl) ev_str w_rp)) (s_retD ev_non rr.1))
def R_bp (ds : List PyData) (d : PyData) : Prop := ∃ xs ys : List Piece, ds = [pt xs, pt ys] ∧ limL xs 50 20 ∧ limL ys 50 20 ∧ xs.length ≤ 400000 ∧ ys.length ≤ 400000 ∧ d = pt (both xs ys)
theorem ok_both_pieces : FnOk P w K mg base CX0 2 T.both_pieces.f T.both_pieces.fd ["first", "second"] (spD K R_bp) := by
  have G_merged := ok_merged (P := P) (w := w) (base := base) T
  refine ok_D T.both_pieces.F sc_both_pieces (fun ds d ⟨_, _, e, _⟩ => by rw [e]; rfl) (fun cdv A outer s H E hr => ⟨_, (pss_cons (ps_set (i := 2) sc_both_pieces.nd rfl (Or.inl rfl) (pe_ifExp (PW.pt (pw_and (pt_cmpR (op_neD hr.units) (pv 0) (pe_tup pa_nil) (nomark _)) (pw_and1 (pt_cmpR (op_neD hr.units) (pv 1) (pe_tup pa_nil) (nomark _))))) (pe_call G_merged (hr.mono (by omega)) rfl T.merged.m T.merged.F.kp T.merged.b .nil pass0 (pa_cons (pe_ix ix_tup (pv 0) (pe_un un_neg pe_int) (fun _ _ => rfl)) (pa_cons (pe_ix ix_tup (pv 1) pe_int (fun _ _ => rfl)) pa_nil))) pe_non))
      (pss_cons (ps_if (pt_cmpR op_isN (pv 2) pe_non (nomark _)) (pss_one (ps_ret (pe_op op_catA (pv 0) (pv 1)))) pss_nil)
      (pss_one (ps_ret (pe_op op_catA (pe_op op_catA (pe_slice sl_tupA (pv 0) po_none (po_some (pe_un un_neg pe_int))) (pe_tup (pa_cons (pv 2) pa_nil))) (pe_slice sl_tupA (pv 1) (po_some pe_int) po_none)))))), ?_⟩)
  rintro ds d ⟨xs, ys, rfl, hl1, hl2, hn1, hn2, rfl⟩ D H0 rr
  have sx := sh_pt hl1 (by omega)
  have sy := sh_pt hl2 (by omega)
  have t1 := fun (δ : Dl .non) (te : TE) (h : Ev K te δ [] (Dd K (pt xs))) => (et_of (ev_neD h (ev_tupD ead_nil) sx sh_nil)).to (congrArg not (eqv_nil xs))
  have t2 := fun (δ : Dl .non) (te : TE) (h : Ev K te δ [] (Dd K (pt ys))) => (et_of (ev_neD h (ev_tupD ead_nil) sy sh_nil)).to (congrArg not (eqv_nil ys))
  have cat : ∀ δ : Dl .non, δ[0]? = some (some (Dd K (pt xs))) → δ[1]? = some (some (Dd K (pt ys))) → Ev K (tOp (rCatA K) (tVar 0) (tVar 1)) δ [] (Dd K (pt (xs ++ ys))) := fun δ h0 h1 => by
    unfold pt
    rw [pds_append]
    exact ev_cat (ev_var h0) (ev_var h1) (by rw [pds_length, pds_length]; omega)
  rcases snoc_of xs with hx | ⟨i, x, hx⟩
  · have e : (!decide (xs = [])) = false := by rw [hx]; rfl
    refine q_asg (P := Dd K .none) (ev_ifF (et_andF ((t1 _ _ (ev_var rfl)).to e)) ev_non) ?_
    refine q_ifT ((et_of (ev_isN (ev_var rfl))).to rfl) ?_
    have e2 : both xs ys = xs ++ ys := by rw [hx]; rfl
    rw [e2] at rr
    exact s_retD (cat _ rfl rfl) rr.1
  · have e : (!decide (xs = [])) = true := by rw [hx]; simp
    cases hy : ys with
    | nil =>
      have e' : (!decide (ys = [])) = false := by rw [hy]; rfl
      rw [hy] at t2 e' cat
      refine q_asg (P := Dd K .none) (ev_ifF (et_andT ((t1 _ _ (ev_var rfl)).to e) ((t2 _ _ (ev_var rfl)).to e')) ev_non) ?_
      refine q_ifT ((et_of (ev_isN (ev_var rfl))).to rfl) ?_
      have e2 : both xs ys = xs ++ [] := by rw [hy, both_nil, List.append_nil]
      rw [e2] at rr
      exact s_retD (cat _ rfl rfl) rr.1
    | cons y r =>
      have e' : (!decide (ys = [])) = true := by rw [hy]; rfl
      rw [hy] at t2 e' cat
      have ex : pds xs = pds i ++ [pd x] := by rw [hx, pds_append]; rfl
      have a1 : atI (pds xs) (-1) = some (pd x) := by rw [ex]; exact atI_last _ _
      refine q_asg (P := Dd K (om (mrg x y))) (ev_ifT (et_andT ((t1 _ _ (ev_var rfl)).to e) ((t2 _ _ (ev_var rfl)).to e')) (ev_call (ead_cons (ev_ix (ev_var rfl) ev_m1 a1) (ead_cons (ev_ix (ev_var rfl) ev_int (atI_zero _ _)) ead_nil)) ⟨x, y, rfl, rfl⟩ (lf_om _))) ?_
      have eb : both xs ys = i ++ glue x (y :: r) := by rw [hx, hy, both_snoc]
      cases hm : mrg x y with
      | none =>
        refine q_ifT ((et_of (ev_isN (ev_var rfl))).to rfl) ?_
        have e2 : both xs ys = xs ++ y :: r := by rw [eb, glue_cons_none hm, hx]; simp
        rw [e2] at rr
        exact s_retD (cat _ rfl rfl) rr.1
      | some z =>
        have ez : isN (om (some z)) = false := by cases z <;> rfl
        refine q_ifF ((et_of (ev_isN (ev_var rfl))).to ez) ?_
        have e2 : pt (both xs ys) = .tuple ((pds i ++ [pd z]) ++ pds r) := by rw [eb, glue_cons_some hm, pt, pds_append]; simp [pds]
        rw [e2] at rr
        have e3 : cutD (pds xs) none (some (-1)) = pds i := by rw [ex]; exact cutD_init _ _
        have c1 := ev_sl (K := K) (m := .non) (c := []) (δ := (dls K (startD ["first", "second", "one"] [pt xs, pt (y :: r)])).set 2 (some (Dd K (om (some z))))) (ev_var (i := 0) rfl) eo_none (eo_some ev_m1)
        rw [e3] at c1
        have c2 := ev_sl (K := K) (m := .non) (c := []) (δ := (dls K (startD ["first", "second", "one"] [pt xs, pt (y :: r)])).set 2 (some (Dd K (om (some z))))) (ev_var (i := 1) rfl) (eo_some (ev_int (i := 1))) eo_none
        have e4 : cutD (pds (y :: r)) (some 1) none = pds r := cutD_tail _ _
        rw [e4] at c2
        have l1 : (pds i).length ≤ 400000 := by rw [pds_length]; rw [hx] at hn1; simp at hn1; omega
        have l2 : (pds r).length ≤ 400000 := by rw [pds_length]; rw [hy] at hn2; simp at hn2; omega
        exact s_retD (ev_cat (ev_cat c1 (ev_tupD (ead_cons (ev_var rfl) ead_nil)) (by simp only [List.length_singleton]; omega)) c2 (by simp only [List.length_append, List.length_singleton]; omega)) rr.1
/-! ### repeats -/
def R_rp (ds : List PyData) (d : PyData) : Prop := ∃ (ps : List Piece) (k : Int), ds = [pt ps, .int k] ∧ limL ps 50 20 ∧ okL ps ∧ total ps ≤ 1000000 ∧ d = pt (repd ps k)
theorem ok_repeated_pieces : FnOk P w K mg base CX0 1 T.repeated_pieces.f T.repeated_pieces.fd ["pieces", "count"] (spD K R_rp) := by
  refine ok_D T.repeated_pieces.F sc_repeated_pieces (fun ds d ⟨_, _, e, _⟩ => by rw [e]; rfl) (fun cdv A outer s H E hr => ⟨_, (pss_cons (ps_if (PW.pt (pw_or (pt_cmpR op_eq (pv 1) pe_int (nomark _)) (pw_or1 (pt_cmpR (op_eqD hr.units) (pv 0) (pe_tup pa_nil) (nomark _))))) (pss_one (ps_ret (pe_tup pa_nil))) pss_nil)
      (pss_cons (ps_if (pt_cmpR op_eq (pv 1) pe_int (nomark _)) (pss_one (ps_ret (pv 0))) pss_nil)
      (pss_cons (ps_if (PW.pt (pw_and (pt_cmpR op_eq (pe_callB call_len_seq (by rfl) T.n_len (by decide +kernel) (pa_cons (pv 0) pa_nil)) pe_int (nomark _)) (pw_and1 (pt_cmpR op_eq (pe_ix ix_tup (pe_ix ix_tup (pv 0) pe_int (fun _ _ => rfl)) pe_int (fun _ _ => rfl)) pe_str (nomark _))))) (pss_one (ps_ret (pe_tup (pa_cons (pe_tup (pa_cons pe_str (pa_cons (pe_op op_mul (pe_ix ix_tup (pe_ix ix_tup (pv 0) pe_int (fun _ _ => rfl)) pe_int (fun _ _ => rfl)) (pv 1)) pa_nil))) pa_nil)))) pss_nil)
      (pss_cons (ps_if (PW.pt (pw_and (pt_cmpR op_eq (pe_callB call_len_seq (by rfl) T.n_len (by decide +kernel) (pa_cons (pv 0) pa_nil)) pe_int (nomark _)) (pw_and1 (pt_cmpR op_eq (pe_ix ix_tup (pe_ix ix_tup (pv 0) pe_int (fun _ _ => rfl)) pe_int (fun _ _ => rfl)) pe_str (nomark _))))) (pss_one (ps_ret (pe_tup (pa_cons (pe_tup (pa_cons pe_str (pa_cons (pe_op op_mul (pe_ix ix_tup (pe_ix ix_tup (pv 0) pe_int (fun _ _ => rfl)) pe_int (fun _ _ => rfl)) (pv 1)) (pa_cons (pe_ix ix_tup (pe_ix ix_tup (pv 0) pe_int (fun _ _ => rfl)) pe_int (fun _ _ => rfl)) pa_nil)))) pa_nil)))) pss_nil)
      (pss_one (ps_ret (pe_tup (pa_cons (pe_tup (pa_cons pe_str (pa_cons (pv 1) (pa_cons (pv 0) pa_nil)))) pa_nil)))))))), ?_⟩)
  rintro ds d ⟨ps, k, rfl, hl, hok, ht, rfl⟩ D H0 rr
  have sp := sh_pt hl (by omega)
  refine q_if (b := decide (k = 0) || decide (ps = [])) (et_or (et_int (ev_var rfl) ev_int rfl) fun _ => (et_of (ev_eqD (ev_var rfl) (ev_tupD ead_nil) sp sh_nil)).to (eqv_nil ps)) (fun hb => ?_) (fun hb => ?_)
  · have e : repd ps k = [] := by
      unfold repd
      rw [if_pos]
      simp only [Bool.or_eq_true, decide_eq_true_eq] at hb
      exact hb.imp id fun h => by rw [h]; rfl
    rw [e] at rr
    exact s_retD (ev_tupD ead_nil) rr.1
  · simp only [Bool.or_eq_false_iff, decide_eq_false_iff_not] at hb
    obtain ⟨h0, hn⟩ := hb
    have c0 : ¬ (k = 0 ∨ ps.isEmpty = true) := by
      rintro (h | h)
      · exact h0 h
      · exact hn (List.isEmpty_iff.mp h)
    refine q_if (b := decide (k = 1)) (et_int (ev_var rfl) ev_int rfl) (fun hb => ?_) (fun hb => ?_)
    · have h1 := of_decide_eq_true hb
      subst h1
      rw [repd_one] at rr
      exact s_retD (ev_var rfl) rr.1
    · have h1 := of_decide_eq_false hb
      cases ps with
      | nil => exact absurd rfl hn
      | cons p r =>
       cases r with
       | cons q r =>
        have ln : decide ((((pds (p :: q :: r)).length : Nat) : Int) = 1) = false := decide_eq_false (by rw [pds_length]; simp; omega)
        have e2 : repd (p :: q :: r) k = [.rep k (p :: q :: r)] := by simp [repd, h0, h1]
        rw [e2] at rr
        exact q_ifF (et_andF (et_int (ev_lenT (ev_var rfl)) ev_int ln)) (q_ifF (et_andF (et_int (ev_lenT (ev_var rfl)) ev_int ln)) (s_retD (ev_tupD (ead_cons (ev_tupD (ead_cons ev_str (ead_cons (ev_var rfl) (ead_cons (ev_var rfl) ead_nil)))) ead_nil)) rr.1))
       | nil =>
        have ln : decide ((((pds [p]).length : Nat) : Int) = 1) = true := rfl
        have hp := plen_pos p hok.1
        simp only [total] at ht
        cases p with
        | sil n =>
          have e2 : repd [.sil n] k = [.sil (n * k)] := by simp [repd, h0, h1]
          rw [e2] at rr
          simp only [plen] at ht hp
          exact q_ifT (et_andT (et_int (ev_lenT (ev_var rfl)) ev_int ln) (et_word (ev_ix (ev_ix (ev_var rfl) ev_int (atI_zero _ _)) ev_int rfl) ev_str (w_eq _)))
            (s_retD (ev_tupD (ead_cons (ev_tupD (ead_cons ev_str (ead_cons (ev_mul (ev_ix (ev_ix (ev_var rfl) ev_int (atI_zero _ _)) ev_int rfl) (ev_var rfl) (.inl ⟨by omega, by omega⟩)) ead_nil))) ead_nil)) rr.1)
        | rep j qs =>
          have e2 : repd [.rep j qs] k = [.rep (j * k) qs] := by simp [repd, h0, h1]
          rw [e2] at rr
          have hl2 := rep_len hok.1
          have hok2 := hok.1
          simp only [okP] at hok2
          exact q_ifF (et_andT (et_int (ev_lenT (ev_var rfl)) ev_int ln) (et_word (ev_ix (ev_ix (ev_var rfl) ev_int (atI_zero _ _)) ev_int rfl) ev_str w_rs))
            (q_ifT (et_andT (et_int (ev_lenT (ev_var rfl)) ev_int ln) (et_word (ev_ix (ev_ix (ev_var rfl) ev_int (atI_zero _ _)) ev_int rfl) ev_str (w_eq _)))
            (s_retD (ev_tupD (ead_cons (ev_tupD (ead_cons ev_str (ead_cons (ev_mul (ev_ix (ev_ix (ev_var rfl) ev_int (atI_zero _ _)) ev_int rfl) (ev_var rfl) (.inl ⟨by omega, by omega⟩)) (ead_cons (ev_ix (ev_ix (ev_var rfl) ev_int (atI_zero _ _)) ev_int rfl) ead_nil)))) ead_nil)) rr.1))
        | part n s e g =>
          have e2 : repd [.part n s e g] k = [.rep k [.part n s e g]] := by simp [repd, h0, h1]
          rw [e2] at rr
          exact q_ifF (et_andT (et_int (ev_lenT (ev_var rfl)) ev_int ln) (et_word (ev_ix (ev_ix (ev_var rfl) ev_int (atI_zero _ _)) ev_int rfl) ev_str w_ps))
            (q_ifF (et_andT (et_int (ev_lenT (ev_var rfl)) ev_int ln) (et_word (ev_ix (ev_ix (ev_var rfl) ev_int (atI_zero _ _)) ev_int rfl) ev_str w_pr))
            (s_retD (ev_tupD (ead_cons (ev_tupD (ead_cons ev_str (ead_cons (ev_var rfl) (ead_cons (ev_var rfl) ead_nil)))) ead_nil)) rr.1))
        | smp xs g =>
          have e2 : repd [.smp xs g] k = [.rep k [.smp xs g]] := by simp [repd, h0, h1]
          rw [e2] at rr
          exact q_ifF (et_andT (et_int (ev_lenT (ev_var rfl)) ev_int ln) (et_word (ev_ix (ev_ix (ev_var rfl) ev_int (atI_zero _ _)) ev_int rfl) ev_str w_ms))
            (q_ifF (et_andT (et_int (ev_lenT (ev_var rfl)) ev_int ln) (et_word (ev_ix (ev_ix (ev_var rfl) ev_int (atI_zero _ _)) ev_int rfl) ev_str w_mr))
            (s_retD (ev_tupD (ead_cons (ev_tupD (ead_cons ev_str (ead_cons (ev_var rfl) (ead_cons (ev_var rfl) ead_nil)))) ead_nil)) rr.1))
end
end Cl

/-! part W4 -/
namespace Cl
open PySem L2
theorem ids_sl (xs : List Int) {a b : Int} (h0 : 0 ≤ a) (h1 : a < b) (h2 : b ≤ (xs.length : Int)) : cutD (ids xs) (some a) (some b) = ids (sl xs a b) := by
  have ea : a = ((a.toNat : Nat) : Int) := by omega
  have eb : b = ((b.toNat : Nat) : Int) := by omega
  rw [ea, eb, cutD_nat _ _ _ (by simp [ids]; omega) (by simp [ids]; omega)]
  unfold ids sl
  rw [List.map_take, List.map_drop, Int.toNat_natCast, Int.toNat_natCast]
theorem cutL_len {ps : List Piece} {a b : Int} (h : okL ps) (h0 : 0 ≤ a) (h1 : a ≤ b) (h2 : b ≤ total ps) : ((cutL ps a b).length : Int) ≤ b - a := by
  have e := cutL_total h h0 h1 h2
  have := total_ge _ (cutL_ok h a b).1
  omega
theorem cutP_len {p : Piece} {a b : Int} (h : okP p) (h0 : 0 ≤ a) (h1 : a < b) (h2 : b ≤ plen p) : ((cutP p a b).length : Int) ≤ b - a := by
  have e := cutP_total p a b h h0 h1 h2
  have := total_ge _ (cutP_ok p a b h h0 h1 h2).1
  omega
theorem clp_le {t a b : Int} (ht : 0 ≤ t) : clp t b - clp t a ≤ t := by
  unfold clp
  omega
theorem cutL_len2 {ps : List Piece} (a b : Int) (h : okL ps) : ((cutL ps a b).length : Int) ≤ total ps := by
  by_cases hab : a ≤ b
  · have e := cutR_total ps a b h hab
    have h1 := total_ge _ (cutL_ok h a b).1
    have h2 := clp_le (a := a) (b := b) (total_nn h)
    rw [cutL_eq] at h1 ⊢
    omega
  · have e : ∀ (ps : List Piece) (a b : Int), okL ps → ¬ a ≤ b → cutR ps a b = [] := by
      intro ps
      induction ps with
      | nil => intros; rfl
      | cons p r ih =>
        intro a b h hab
        rw [cutR, ih _ _ h.2 (by omega), if_neg (by omega)]
        rfl
    rw [cutL_eq, e ps a b h hab]
    exact total_nn h
section
variable {P : Program} {w : World} {K : Frg} {mg : Str → Option Value} {base : Heap} (T : Tx K mg)
def R_cps (r : Nat) (ds : List PyData) (d : PyData) : Prop := ∃ (ps : List Piece) (a b : Int), ds = [pt ps, .int a, .int b] ∧ okL ps ∧ (∃ q, r = q + 1 ∧ limL ps 50 q) ∧ r ≤ 20 ∧ total ps ≤ 100000 ∧ d = pt (cutL ps a b)
def R_cr (r : Nat) (ds : List PyData) (d : PyData) : Prop := ∃ (k : Int) (ps : List Piece) (a b : Int), ds = [pd (.rep k ps), .int a, .int b] ∧ okP (.rep k ps) ∧ limP (.rep k ps) 50 r ∧ r ≤ 20 ∧ 0 ≤ a ∧ a < b ∧ b ≤ plen (.rep k ps) ∧ plen (.rep k ps) ≤ 100000 ∧ d = pt (cutP (.rep k ps) a b)
def R_c1 (r : Nat) (ds : List PyData) (d : PyData) : Prop := ∃ (p : Piece) (a b : Int), ds = [pd p, .int a, .int b] ∧ okP p ∧ limP p 50 r ∧ r ≤ 20 ∧ 0 ≤ a ∧ a < b ∧ b ≤ plen p ∧ plen p ≤ 100000 ∧ d = pt (cutP p a b)
theorem ok_cut_repeat (r : Nat) (G_cut_pieces : FnOk P w K mg base CX0 (3 * r + 3) T.cut_pieces.f T.cut_pieces.fd ["pieces", "start", "end"] (spD K (R_cps r))) :
    FnOk P w K mg base CX0 (3 * r + 3 + 1) T.cut_repeat.f T.cut_repeat.fd ["piece", "start", "end"] (spD K (R_cr r)) := by
  have G_total_length := (ok_pltl (P := P) (w := w) (base := base) T r).1
  have G_both_pieces := ok_both_pieces (P := P) (w := w) (base := base) T
  have G_repeated_pieces := ok_repeated_pieces (P := P) (w := w) (base := base) T
  refine ok_D T.cut_repeat.F sc_cut_repeat (fun ds d ⟨_, _, _, _, e, _⟩ => by rw [e]; rfl) (fun cdv A outer s H E hr => ⟨_, (pss_cons (ps_set (i := 3) sc_cut_repeat.nd rfl (Or.inl rfl) (pe_ix ix_tup (pv 0) pe_int (fun _ _ => rfl)))
      (pss_cons (ps_set (i := 4) sc_cut_repeat.nd rfl (Or.inl rfl) (pe_call G_total_length (hr.mono (by omega)) rfl T.total_length.m T.total_length.F.kp T.total_length.b .nil pass0 (pa_cons (pv 3) pa_nil)))
      (pss_cons (ps_par (i := 5) (j := 6) (by rfl) sc_cut_repeat.nd rfl rfl (by decide) rfl rfl (pa_cons (pe_op op_fdiv (pv 1) (pv 4)) (pa_cons (pe_op op_fdiv (pv 2) (pv 4)) pa_nil)) (by rfl))
      (pss_cons (ps_if (pt_cmpR op_eq (pv 5) (pv 6) (nomark _)) (pss_one (ps_ret (pe_call G_cut_pieces (hr.mono (by omega)) rfl T.cut_pieces.m T.cut_pieces.F.kp T.cut_pieces.b .nil pass0 (pa_cons (pv 3) (pa_cons (pe_op op_sub (pv 1) (pe_op op_mul (pv 5) (pv 4))) (pa_cons (pe_op op_sub (pv 2) (pe_op op_mul (pv 5) (pv 4))) pa_nil)))))) pss_nil)
      (pss_cons (ps_set (i := 7) sc_cut_repeat.nd rfl (Or.inl rfl) (pe_tup pa_nil))
      (pss_cons (ps_if (pt_cmpR op_gt (pv 1) (pe_op op_mul (pv 5) (pv 4)) (nomark _)) (pss_cons (ps_set (i := 7) sc_cut_repeat.nd rfl (Or.inl rfl) (pe_call G_cut_pieces (hr.mono (by omega)) rfl T.cut_pieces.m T.cut_pieces.F.kp T.cut_pieces.b .nil pass0 (pa_cons (pv 3) (pa_cons (pe_op op_sub (pv 1) (pe_op op_mul (pv 5) (pv 4))) (pa_cons (pv 4) pa_nil)))))
      (pss_one (ps_aug (i := 5) sc_cut_repeat.nd rfl (.inl rfl) pe_int ip_add))) pss_nil)
      (pss_cons (ps_set (i := 7) sc_cut_repeat.nd rfl (Or.inl rfl) (pe_call G_both_pieces (hr.mono (by omega)) rfl T.both_pieces.m T.both_pieces.F.kp T.both_pieces.b .nil pass0 (pa_cons (pv 7) (pa_cons (pe_call G_repeated_pieces (hr.mono (by omega)) rfl T.repeated_pieces.m T.repeated_pieces.F.kp T.repeated_pieces.b .nil pass0 (pa_cons (pv 3) (pa_cons (pe_op op_sub (pv 6) (pv 5)) pa_nil))) pa_nil))))
      (pss_one (ps_ret (pe_call G_both_pieces (hr.mono (by omega)) rfl T.both_pieces.m T.both_pieces.F.kp T.both_pieces.b .nil pass0 (pa_cons (pv 7) (pa_cons (pe_call G_cut_pieces (hr.mono (by omega)) rfl T.cut_pieces.m T.cut_pieces.F.kp T.cut_pieces.b .nil pass0 (pa_cons (pv 3) (pa_cons pe_int (pa_cons (pe_op op_sub (pv 2) (pe_op op_mul (pv 6) (pv 4))) pa_nil)))) pa_nil)))))))))))), ?_⟩)
  rintro ds d ⟨k, ps, a, b, rfl, hok, hlim, hr20, h0, h1, h2, h3, rfl⟩ D H0 rr
  have c := cop_of hok h0 h1 h2
  have hle := c.le
  have ra := c.ra
  have rb := c.rb
  have z0 := c.z0
  have hl := rep_len hok
  have hok' := hok
  simp only [okP] at hok'
  simp only [limP] at hlim
  obtain ⟨q, hq, hlim⟩ := hlim
  have hcut : ∀ x y, limL (cutL ps x y) 50 20 := fun x y => by
    rw [cutL_eq]
    exact limL_mono _ (Nat.le_refl _) (by omega) (cutR_lim ps x y hlim)
  have hrep : ∀ j, limL (repd ps j) 50 20 := fun j => limL_mono _ (Nat.le_refl _) (by omega) (repd_lim ps j hlim)
  have hcall : ∀ x y : Int, R_cps r [pt ps, .int x, .int y] (pt (cutL ps x y)) := fun x y => ⟨ps, x, y, rfl, hok'.2.2.1, ⟨q, hq, hlim⟩, hr20, by omega, rfl⟩
  have cd : ∀ x, CDiv x (total ps) := fun x => ⟨z0, by omega⟩
  have cm : ∀ x, CMul x (total ps) := fun x => .inr ⟨by omega, by omega⟩
  refine q_asg (P := Dd K (pt ps)) (ev_ix (ev_var rfl) ev_int rfl) ?_
  refine q_asg (ev_call (ead_cons (ev_var rfl) ead_nil) ⟨ps, rfl, hok'.2.2.1, ⟨q, hq, hlim⟩, by omega, rfl⟩ rfl) ?_
  refine q_par (ea_cons (ev_fdiv (ev_var rfl) (ev_var rfl) (cd a)) (ea_cons (ev_fdiv (ev_var rfl) (ev_var rfl) (cd b)) ea_nil)) ?_
  have sub1 : ∀ (δ : Dl .non), δ[1]? = some (some (Dd K (.int a))) → δ[5]? = some (some (Dd K (.int (a / total ps)))) → δ[4]? = some (some (Dd K (.int (total ps)))) →
      Ev K (tOp (rI0 fun i j => .int (i - j)) (tVar 1) (tOp (rI CMul fun i j => .int (i * j)) (tVar 5) (tVar 4))) δ [] (Dd K (.int (a - a / total ps * total ps))) := fun δ e1 e2 e3 => ev_sub (ev_var e1) (ev_mul (ev_var e2) (ev_var e3) (cm _))
  by_cases he : a / total ps = b / total ps
  · refine q_ifT (et_int (ev_var rfl) (ev_var rfl) (decide_eq_true he)) ?_
    have ed : cutP (.rep k ps) a b = cutL ps (a - a / total ps * total ps) (b - a / total ps * total ps) := by
      simp only [cutP]
      rw [if_pos he]
      rfl
    rw [ed] at rr
    exact s_retD (ev_call (ead_cons (ev_var rfl) (ead_cons (sub1 _ rfl rfl rfl) (ead_cons (ev_sub (ev_var rfl) (ev_mul (ev_var rfl) (ev_var rfl) (cm _))) ead_nil))) (hcall _ _) (lf_pt _)) rr.1
  · refine q_ifF (et_int (ev_var rfl) (ev_var rfl) (decide_eq_false he)) ?_
    refine q_asg (P := Dd K (pt [])) (ev_tupD ead_nil) ?_
    have ln : ∀ x y : Int, 0 ≤ x → x ≤ y → y ≤ total ps → (cutL ps x y).length ≤ 100000 := fun x y hx hy hz => by
      have := cutL_len hok'.2.2.1 hx hy hz
      omega
    have rn : ∀ j : Int, 0 ≤ j → j ≤ b / total ps → ((repd ps j).length : Int) ≤ 100000 ∧ total (repd ps j) ≤ 100000 ∧ okL (repd ps j) := fun j hj hj2 => by
      have o := repd_ok ps j hj hok'.2.2.1 hok'.2.2.2
      have t := total_ge _ o.1
      have e := repd_total ps j
      have m : j * total ps ≤ b / total ps * total ps := Int.mul_le_mul_of_nonneg_right hj2 (by omega)
      exact ⟨by omega, by omega, o.1⟩
    have fin : ∀ (δ : Dl .non) (F : List Piece) (H0 : Hp) (D : Ends), δ[7]? = some (some (Dd K (pt F))) → δ[3]? = some (some (Dd K (pt ps))) → δ[2]? = some (some (Dd K (.int b))) → δ[6]? = some (some (Dd K (.int (b / total ps)))) → δ[4]? = some (some (Dd K (.int (total ps)))) →
        limL F 50 20 → F.length ≤ 400000 → (∀ v H, Same H0 H → Dp K H v (pt (both F (cutL ps 0 (b - b / total ps * total ps)))) → D.rt v H) →
        S K (tRet (tCall (spD K R_bp) [] E0 (tCons (tVar 7) (tCons (tCall (spD K (R_cps r)) [] E0 (tCons (tVar 3) (tCons (tC (.int 0)) (tCons (tOp (rI0 fun i j => .int (i - j)) (tVar 2) (tOp (rI CMul fun i j => .int (i * j)) (tVar 6) (tVar 4))) tNil)))) tNil)))) D δ [] H0 := fun δ F H0 D e7 e3 e2 e6 e4 hF hn k => by
      refine s_retD (ev_call (ead_cons (ev_var e7) (ead_cons (ev_call (ead_cons (ev_var e3) (ead_cons ev_int (ead_cons (ev_sub (ev_var e2) (ev_mul (ev_var e6) (ev_var e4) (cm _))) ead_nil))) (hcall _ _) (lf_pt _)) ead_nil)) ⟨F, _, rfl, hF, hcut _ _, hn, ?_, rfl⟩ (lf_pt _)) k
      have := ln 0 (b - b / total ps * total ps) (by omega) (by omega) (by omega)
      omega
    by_cases hgt : a > a / total ps * total ps
    · refine q_ifT ((et_of (ev_gt (ev_var rfl) (ev_mul (ev_var rfl) (ev_var rfl) (cm _)))).to (decide_eq_true hgt)) ?_
      refine q_asg (ev_call (ead_cons (ev_var rfl) (ead_cons (sub1 _ rfl rfl rfl) (ead_cons (ev_var rfl) ead_nil))) (hcall _ _) (lf_pt _)) ?_
      refine s_aug (f := fun i j => i + j) rfl ev_int (s_nx ?_)
      have hln := ln (a - a / total ps * total ps) (total ps) (by omega) (by omega) (by omega)
      have hrn := rn (b / total ps - (a / total ps + 1)) (by omega) (by have := Int.ediv_nonneg h0 (by omega : 0 ≤ total ps); omega)
      have hto := cutL_total hok'.2.2.1 (a := a - a / total ps * total ps) (b := total ps) (by omega) (by omega) (by omega)
      refine q_asg (ev_call (ead_cons (ev_var rfl) (ead_cons (ev_call (ead_cons (ev_var rfl) (ead_cons (ev_sub (ev_var rfl) (ev_var rfl)) ead_nil)) ⟨ps, _, rfl, limL_mono _ (Nat.le_refl _) (by omega) hlim, hok'.2.2.1, by omega, rfl⟩ (lf_pt _)) ead_nil)) ⟨_, _, rfl, hcut _ _, hrep _, by omega, by omega, rfl⟩ (lf_pt _)) ?_
      have ed : cutP (.rep k ps) a b = both (both (cutL ps (a - a / total ps * total ps) (total ps)) (repd ps (b / total ps - (a / total ps + 1)))) (cutL ps 0 (b - b / total ps * total ps)) := by
        simp only [cutP]
        rw [if_neg he, if_pos hgt]
        rfl
      rw [ed] at rr
      refine fin _ _ _ _ rfl rfl rfl rfl rfl (both_lim _ _ (hcut _ _) (hrep _)) ?_ rr.1
      have o := both_ok _ _ (cutL_ok hok'.2.2.1 (a - a / total ps * total ps) (total ps)).1 hrn.2.2
      have t := total_ge _ o
      rw [both_total] at t
      omega
    · refine q_ifF ((et_of (ev_gt (ev_var rfl) (ev_mul (ev_var rfl) (ev_var rfl) (cm _)))).to (decide_eq_false hgt)) ?_
      have hrn := rn (b / total ps - a / total ps) (by omega) (by have := Int.ediv_nonneg h0 (by omega : 0 ≤ total ps); omega)
      refine q_asg (ev_call (ead_cons (ev_var rfl) (ead_cons (ev_call (ead_cons (ev_var rfl) (ead_cons (ev_sub (ev_var rfl) (ev_var rfl)) ead_nil)) ⟨ps, _, rfl, limL_mono _ (Nat.le_refl _) (by omega) hlim, hok'.2.2.1, by omega, rfl⟩ (lf_pt _)) ead_nil)) ⟨[], _, rfl, trivial, hrep _, Nat.zero_le _, by omega, rfl⟩ (lf_pt _)) ?_
      have ed : cutP (.rep k ps) a b = both (both [] (repd ps (b / total ps - a / total ps))) (cutL ps 0 (b - b / total ps * total ps)) := by
        simp only [cutP]
        rw [if_neg he, if_neg hgt]
        rfl
      rw [ed] at rr
      exact fin _ _ _ _ rfl rfl rfl rfl rfl (hrep _) (by show (repd ps (b / total ps - a / total ps)).length ≤ 400000; omega) rr.1
theorem ok_cut_piece (r : Nat) (G_cut_repeat : FnOk P w K mg base CX0 (3 * r + 3 + 1) T.cut_repeat.f T.cut_repeat.fd ["piece", "start", "end"] (spD K (R_cr r))) :
    FnOk P w K mg base CX0 (3 * r + 3 + 1 + 1) T.cut_piece.f T.cut_piece.fd ["piece", "start", "end"] (spD K (R_c1 r)) := by
  refine ok_D T.cut_piece.F sc_cut_piece (fun ds d ⟨_, _, _, e, _⟩ => by rw [e]; rfl) (fun cdv A outer s H E hr => ⟨_, (pss_cons (ps_if (pt_cmpR op_eq (pv 1) (pv 2) (nomark _)) (pss_one (ps_ret (pe_tup pa_nil))) pss_nil)
      (pss_cons (ps_if (pt_cmpR op_eq (pe_ix ix_tup (pv 0) pe_int (fun _ _ => rfl)) pe_str (nomark _)) (pss_one (ps_ret (pe_tup (pa_cons (pe_tup (pa_cons pe_str (pa_cons (pe_ix ix_tup (pv 0) pe_int (fun _ _ => rfl)) (pa_cons (pe_op op_add (pe_ix ix_tup (pv 0) pe_int (fun _ _ => rfl)) (pv 1)) (pa_cons (pe_op op_add (pe_ix ix_tup (pv 0) pe_int (fun _ _ => rfl)) (pv 2)) (pa_cons (pe_ix ix_tup (pv 0) pe_int (fun _ _ => rfl)) pa_nil)))))) pa_nil)))) pss_nil)
      (pss_cons (ps_if (pt_cmpR op_eq (pe_ix ix_tup (pv 0) pe_int (fun _ _ => rfl)) pe_str (nomark _)) (pss_one (ps_ret (pe_tup (pa_cons (pe_tup (pa_cons pe_str (pa_cons (pe_op op_sub (pv 2) (pv 1)) pa_nil))) pa_nil)))) pss_nil)
      (pss_cons (ps_if (pt_cmpR op_eq (pe_ix ix_tup (pv 0) pe_int (fun _ _ => rfl)) pe_str (nomark _)) (pss_one (ps_ret (pe_tup (pa_cons (pe_tup (pa_cons pe_str (pa_cons (pe_slice sl_tupA (pe_ix ix_tup (pv 0) pe_int (fun _ _ => rfl)) (po_some (pv 1)) (po_some (pv 2))) (pa_cons (pe_ix ix_tup (pv 0) pe_int (fun _ _ => rfl)) pa_nil)))) pa_nil)))) pss_nil)
      (pss_one (ps_ret (pe_call G_cut_repeat (hr.mono (by omega)) rfl T.cut_repeat.m T.cut_repeat.F.kp T.cut_repeat.b .nil pass0 (pa_cons (pv 0) (pa_cons (pv 1) (pa_cons (pv 2) pa_nil)))))))))), ?_⟩)
  rintro ds d ⟨p, a, b, rfl, hok, hlim, hr20, h0, h1, h2, h3, rfl⟩ D H0 rr
  refine q_ifF (et_int (ev_var rfl) (ev_var rfl) (decide_eq_false (by omega))) ?_
  cases p with
  | part n s e g =>
    refine q_ifT (et_word (ev_ix (ev_var rfl) ev_int rfl) ev_str (w_eq _)) ?_
    exact s_retD (ev_tupD (ead_cons (ev_tupD (ead_cons ev_str (ead_cons (ev_ix (ev_var rfl) ev_int rfl) (ead_cons (ev_add (ev_ix (ev_var rfl) ev_int rfl) (ev_var rfl)) (ead_cons (ev_add (ev_ix (ev_var rfl) ev_int rfl) (ev_var rfl)) (ead_cons (ev_ix (ev_var rfl) ev_int rfl) ead_nil)))))) ead_nil)) rr.1
  | sil n =>
    refine q_ifF (et_word (ev_ix (ev_var rfl) ev_int rfl) ev_str w_sp) (q_ifT (et_word (ev_ix (ev_var rfl) ev_int rfl) ev_str (w_eq _)) ?_)
    exact s_retD (ev_tupD (ead_cons (ev_tupD (ead_cons ev_str (ead_cons (ev_sub (ev_var rfl) (ev_var rfl)) ead_nil))) ead_nil)) rr.1
  | smp xs g =>
    refine q_ifF (et_word (ev_ix (ev_var rfl) ev_int rfl) ev_str w_mp) (q_ifF (et_word (ev_ix (ev_var rfl) ev_int rfl) ev_str w_ms) (q_ifT (et_word (ev_ix (ev_var rfl) ev_int rfl) ev_str (w_eq _)) ?_))
    have ed : pt (cutP (.smp xs g) a b) = .tuple [.tuple [.str "samples", .tuple (cutD (ids xs) (some a) (some b)), gd g]] := by
      rw [ids_sl xs h0 h1 h2]
      rfl
    rw [ed] at rr
    exact s_retD (ev_tupD (ead_cons (ev_tupD (ead_cons ev_str (ead_cons (ev_sl (ev_ix (ev_var rfl) ev_int rfl) (eo_some (ev_var rfl)) (eo_some (ev_var rfl))) (ead_cons (ev_ix (ev_var rfl) ev_int rfl) ead_nil)))) ead_nil)) rr.1
  | rep k ps =>
    refine q_ifF (et_word (ev_ix (ev_var rfl) ev_int rfl) ev_str w_rp) (q_ifF (et_word (ev_ix (ev_var rfl) ev_int rfl) ev_str w_rs) (q_ifF (et_word (ev_ix (ev_var rfl) ev_int rfl) ev_str w_rm) ?_))
    exact s_retD (ev_call (ead_cons (ev_var rfl) (ead_cons (ev_var rfl) (ead_cons (ev_var rfl) ead_nil))) ⟨k, ps, a, b, rfl, hok, hlim, hr20, h0, h1, h2, h3, rfl⟩ (lf_pt _)) rr.1
theorem drop_at {α : Type} {l : List α} {i : Nat} {x : α} (h : l[i]? = some x) : l.drop i = x :: l.drop (i + 1) := by
  obtain ⟨h1, h2⟩ := List.getElem?_eq_some_iff.mp h
  rw [List.drop_eq_getElem_cons h1, h2]
theorem ok_cut_pieces (r : Nat) (G_cut_piece : FnOk P w K mg base CX0 (3 * r + 3 + 1 + 1) T.cut_piece.f T.cut_piece.fd ["piece", "start", "end"] (spD K (R_c1 r))) :
    FnOk P w K mg base CX0 (3 * r + 3 + 1 + 1 + 1) T.cut_pieces.f T.cut_pieces.fd ["pieces", "start", "end"] (spD K (R_cps (r + 1))) := by
  have G_piece_length := (ok_pltl (P := P) (w := w) (base := base) T r).2
  have G_both_pieces := ok_both_pieces (P := P) (w := w) (base := base) T
  refine ok_D T.cut_pieces.F sc_cut_pieces (fun ds d ⟨_, _, _, e, _⟩ => by rw [e]; rfl) (fun cdv A outer s H E hr => ⟨_, (pss_cons (ps_set (i := 3) sc_cut_pieces.nd rfl (Or.inl rfl) (pe_tup pa_nil))
      (pss_cons (ps_set (i := 4) sc_cut_pieces.nd rfl (Or.inl rfl) pe_int)
      (pss_cons (ps_for PassesOwn.never rfl (pi_tup (pv 0)) (pg_name (i := 5) sc_cut_pieces.nd rfl (Or.inl rfl)) (pss_cons (ps_set (i := 6) sc_cut_pieces.nd rfl (Or.inl rfl) (pe_call G_piece_length (hr.mono (by omega)) rfl T.piece_length.m T.piece_length.F.kp T.piece_length.b .nil pass0 (pa_cons (pv 5) pa_nil)))
      (pss_cons (ps_par (i := 7) (j := 8) (by rfl) sc_cut_pieces.nd rfl rfl (by decide) rfl rfl (pa_cons (pe_callB (call_max2 rfl) (by rfl) T.n_max (by decide +kernel) (pa_cons (pe_op op_sub (pv 1) (pv 4)) (pa_cons pe_int pa_nil))) (pa_cons (pe_callB (call_min2 rfl) (by rfl) T.n_min (by decide +kernel) (pa_cons (pe_op op_sub (pv 2) (pv 4)) (pa_cons (pv 6) pa_nil))) pa_nil)) (by rfl))
      (pss_cons (ps_if (pt_cmpR op_lt (pv 7) (pv 8) (nomark _)) (pss_one (ps_set (i := 3) sc_cut_pieces.nd rfl (Or.inl rfl) (pe_call G_both_pieces (hr.mono (by omega)) rfl T.both_pieces.m T.both_pieces.F.kp T.both_pieces.b .nil pass0 (pa_cons (pv 3) (pa_cons (pe_call G_cut_piece (hr.mono (by omega)) rfl T.cut_piece.m T.cut_piece.F.kp T.cut_piece.b .nil pass0 (pa_cons (pv 5) (pa_cons (pv 7) (pa_cons (pv 8) pa_nil)))) pa_nil))))) pss_nil)
      (pss_one (ps_aug (i := 4) sc_cut_pieces.nd rfl (.inl rfl) (pv 6) ip_add))))))
      (pss_one (ps_ret (pv 3)))))), ?_⟩)
  rintro ds d ⟨ps, a, b, rfl, hok, ⟨q, hq, hlim⟩, hr20, htot, rfl⟩ D H0 rr
  have hqr : q = r := by omega
  subst hqr
  refine q_asg (P := Dd K (pt [])) (ev_tupD ead_nil) (q_asg (P := Dd K (.int 0)) ev_int ?_)
  have hR := cutL_len2 a b hok
  refine s_seq (s_forT (α := List Piece × Int) (fun i x => cutG (ps.drop i) x.1 x.2 a b = cutL ps a b ∧ okL x.1 ∧ limL x.1 50 q) (fun x => dls K [some (pt ps), some (.int a), some (.int b), some (pt x.1), some (.int x.2), none, none, none, none]) (fun _ => []) ([], 0)
    (ev_var rfl) ⟨rfl, trivial, trivial⟩ rfl (sub_s (sub_s (sub_s (sub_s (sub_s (sub_n (sub_n (sub_n (sub_n sub_nil))))))))) ?_ ?_)
  · rintro i ⟨F, pl⟩ d H1 hd ⟨hinv, hF, hFl⟩ _
    obtain ⟨p, hp, rfl⟩ := pds_get hd
    have hm := List.mem_of_getElem? hp
    have okp := okL_mem hok hm
    have limp := limL_mem hlim hm
    have lenp := plen_mem hok hm
    have posp := plen_pos p okp
    have hFn : F.length ≤ 100000 := by
      have h := (both_len F (cutR (ps.drop i) (a - pl) (b - pl))).1
      rw [← cutG_eq, hinv] at h
      omega
    rw [drop_at hp, cutG] at hinv
    refine q_asg (ev_call (ead_cons (ev_var rfl) ead_nil) ⟨p, rfl, okp, limp, by omega, rfl⟩ rfl) ?_
    refine q_par (ea_cons (ev_max2 (ev_sub (ev_var rfl) (ev_var rfl)) ev_int) (ea_cons (ev_min2 (ev_sub (ev_var rfl) (ev_var rfl)) (ev_var rfl)) ea_nil)) ?_
    by_cases hlt : max (a - pl) 0 < min (b - pl) (plen p)
    · rw [if_pos hlt] at hinv
      refine q_ifT ((et_of (ev_lt (ev_var rfl) (ev_var rfl))).to (decide_eq_true hlt)) ?_
      have hc := cutP_len okp (by omega) hlt (by omega)
      have hco := cutP_ok p _ _ okp (by omega) hlt (by omega)
      have hcl := cutP_lim p (max (a - pl) 0) (min (b - pl) (plen p)) limp
      refine s_asg (ev_call (ead_cons (ev_var rfl) (ead_cons (ev_call (ead_cons (ev_var rfl) (ead_cons (ev_var rfl) (ead_cons (ev_var rfl) ead_nil))) ⟨p, max (a - pl) 0, min (b - pl) (plen p), rfl, okp, limp, by omega, by omega, hlt, by omega, by omega, rfl⟩ (lf_pt _)) ead_nil))
        ⟨F, cutP p (max (a - pl) 0) (min (b - pl) (plen p)), rfl, limL_mono _ (Nat.le_refl _) (by omega) hFl, limL_mono _ (Nat.le_refl _) (by omega) hcl, by omega, by omega, rfl⟩ (lf_pt _)) (s_nx ?_)
      refine s_aug (f := fun i j => i + j) rfl (ev_var rfl) ?_
      exact s_end (both F (cutP p (max (a - pl) 0) (min (b - pl) (plen p))), pl + plen p) ⟨hinv, both_ok _ _ hF hco.1, both_lim _ _ hFl hcl⟩ rfl (sub_s (sub_s (sub_s (sub_s (sub_s (sub_n (sub_n (sub_n (sub_n sub_nil)))))))))
    · rw [if_neg hlt] at hinv
      refine q_ifF ((et_of (ev_lt (ev_var rfl) (ev_var rfl))).to (decide_eq_false hlt)) ?_
      refine s_aug (f := fun i j => i + j) rfl (ev_var rfl) ?_
      exact s_end (F, pl + plen p) ⟨hinv, hF, hFl⟩ rfl (sub_s (sub_s (sub_s (sub_s (sub_s (sub_n (sub_n (sub_n (sub_n sub_nil)))))))))
  · rintro ⟨F, pl⟩ ⟨hinv, hF, hFl⟩
    rw [pds_length, List.drop_length] at hinv
    have e : F = cutL ps a b := hinv
    subst e
    exact s_nx (s_retD (ev_var rfl) rr.1)
theorem ok_cuts : ∀ r : Nat, FnOk P w K mg base CX0 (3 * r + 3) T.cut_pieces.f T.cut_pieces.fd ["pieces", "start", "end"] (spD K (R_cps r))
  | 0 => (fn_none fun ds d ⟨_, _, _, _, _, ⟨q, e, _⟩, _⟩ => by omega : FnOk P w K mg base CX0 0 T.cut_pieces.f T.cut_pieces.fd ["pieces", "start", "end"] (spD K (R_cps 0))).mono (by omega)
  | r + 1 => ok_cut_pieces T r (ok_cut_piece T r (ok_cut_repeat T r (ok_cuts r)))
end
end Cl

/-! part W5 -/
namespace Cl
open PySem L2
theorem ixN_last (k : Nat) : ixN (k + 1) (-1) = some k := by
  unfold ixN
  rw [if_neg (by omega), if_pos (by omega)]
  congr 1
  omega
theorem set_snoc {α : Type} (i : List α) (x y : α) : (i ++ [x]).set i.length y = i ++ [y] := by
  induction i with
  | nil => rfl
  | cons a r ih => simp
theorem lboth_one (F : List Piece) (y : Piece) (r : List Piece) : lboth F (y :: r) = lboth (both F [y]) r := rfl
theorem lboth_lim {c r : Nat} : ∀ (ys xs : List Piece), limL xs c r → limL ys c r → limL (lboth xs ys) c r
  | [], _, h, _ => h
  | y :: ys, xs, h, h' => lboth_lim ys (both xs [y]) (both_lim _ _ h ⟨h'.1, trivial⟩) h'.2
theorem both_len_le (xs ys : List Piece) : (both xs ys).length ≤ xs.length + ys.length := by
  rcases snoc_of xs with h | ⟨i, x, h⟩
  · subst h
    show ys.length ≤ _
    omega
  · subst h
    rw [both_snoc]
    cases ys with
    | nil => simp [glue]
    | cons y r =>
      cases q : mrg x y with
      | none => rw [glue_cons_none q]; simp; omega
      | some z => rw [glue_cons_some q]; simp
theorem gainL_map (g : Int × Int) : ∀ ps, gainL g ps = ps.map (gainP g)
  | [] => rfl
  | p :: ps => by rw [gainL, gainL_map g ps]; rfl
theorem gain_snoc {g : Int × Int} {ps : List Piece} {i : Nat} {p : Piece} (h : ps[i]? = some p) : pds (gainL g (ps.take (i + 1))) = pds (gainL g (ps.take i)) ++ [pd (gainP g p)] := by
  rw [gainL_map, gainL_map, pds_map, pds_map, List.take_add_one, h]
  simp
theorem gd_snoc (g : List (Int × Int)) (x : Int × Int) : gd (g ++ [x]) = .tuple (g.map gd1 ++ [gd1 x]) := by simp [gd]
section
variable {P : Program} {w : World} {K : Frg} {mg : Str → Option Value} {base : Heap} (T : Tx K mg)
/-! ### gains -/
def R_gp (r : Nat) (ds : List PyData) (d : PyData) : Prop := ∃ (ps : List Piece) (g : Int × Int), ds = [pt ps, gd1 g] ∧ okL ps ∧ (∃ q, r = q + 1 ∧ limL ps 49 q) ∧ total ps ≤ 500000 ∧ d = pt (gainL g ps)
theorem ok_gained_pieces : ∀ r : Nat, FnOk P w K mg base CX0 r T.gained_pieces.f T.gained_pieces.fd ["pieces", "gain"] (spD K (R_gp r))
  | 0 => fn_none fun ds d ⟨_, _, _, _, ⟨q, e, _⟩, _⟩ => by omega
  | r + 1 => by
    have G_gained_pieces := ok_gained_pieces r
    refine ok_D T.gained_pieces.F sc_gained_pieces (fun ds d ⟨_, _, e, _⟩ => by rw [e]; rfl) (fun cdv A outer s H E hr => ⟨_, (pss_cons (ps_set (i := 2) sc_gained_pieces.nd rfl (Or.inl rfl) (pe_lst pa_nil))
      (pss_cons (ps_for PassesOwn.never rfl (pi_tup (pv 0)) (pg_name (i := 3) sc_gained_pieces.nd rfl (Or.inl rfl)) (pss_one (ps_if (pt_cmpR op_eq (pe_ix ix_tup (pv 3) pe_int (fun _ _ => rfl)) pe_str (nomark _)) (pss_one (ps_expr (pe_bm PySem.F.plainAttrs_list PySem.F.slot_list_append PySem.F.type_list_append mt_append (pv 2) (pa_cons (pe_tup (pa_cons pe_str (pa_cons (pe_ix ix_tup (pv 3) pe_int (fun _ _ => rfl)) (pa_cons (pe_call G_gained_pieces (hr.mono (by omega)) rfl T.gained_pieces.m T.gained_pieces.F.kp T.gained_pieces.b .nil pass0 (pa_cons (pe_ix ix_tup (pv 3) pe_int (fun _ _ => rfl)) (pa_cons (pv 1) pa_nil))) pa_nil)))) pa_nil)))) (pss_one (ps_if (pt_cmpR op_eq (pe_ix ix_tup (pv 3) pe_int (fun _ _ => rfl)) pe_str (nomark _)) (pss_one (ps_expr (pe_bm PySem.F.plainAttrs_list PySem.F.slot_list_append PySem.F.type_list_append mt_append (pv 2) (pa_cons (pv 3) pa_nil)))) (pss_cons (ps_asg (pv 3) (pg_star (by rfl) (pgs_star (pg_name (i := 4) sc_gained_pieces.nd rfl (Or.inl rfl)) (pgs_cons (pg_name (i := 5) sc_gained_pieces.nd rfl (Or.inl rfl)) pgs_nil))))
      (pss_one (ps_expr (pe_bm PySem.F.plainAttrs_list PySem.F.slot_list_append PySem.F.type_list_append mt_append (pv 2) (pa_cons (pe_op op_catA (pe_callTy call_tuple_of (by rfl) T.n_tuple (by decide +kernel) (pa_cons (pv 4) pa_nil)) (pe_tup (pa_cons (pe_op op_catA (pv 5) (pe_tup (pa_cons (pv 1) pa_nil))) pa_nil))) pa_nil))))))))))
      (pss_one (ps_ret (pe_callTy call_tuple_of (by rfl) T.n_tuple (by decide +kernel) (pa_cons (pv 2) pa_nil)))))), ?_⟩)
    rintro ds d ⟨ps, g, rfl, hok, ⟨q, hq, hlim⟩, htot, rfl⟩ D H0 rr
    have hqr : q = r := by omega
    subst hqr
    have hn := total_ge ps hok
    refine q_newL en_nil fun l h0 => ?_
    refine s_seq (s_forT (α := Nat) (fun i x => x = i) (fun _ => (dls K [some (pt ps), some (gd1 g), none, none, none, none]).set 2 (some (dAt l))) (fun i => pds (gainL g (ps.take i))) 0 (ev_var rfl) rfl rfl (sub_s (sub_s (sub_s (sub_n (sub_n (sub_n sub_nil)))))) ?_ ?_)
    · rintro i x d H1 hd hx _
      have hx' : i = x := hx.symm
      subst hx'
      obtain ⟨p, hp, rfl⟩ := pds_get hd
      have hm := List.mem_of_getElem? hp
      have okp := okL_mem hok hm
      have limp := limL_mem hlim hm
      have lenp := plen_mem hok hm
      have hc : (pds (gainL g (ps.take i))).length < 1000000 := by
        rw [pds_length, gainL_map, List.length_map, List.length_take]
        omega
      have fin : ∀ (δ : Dl (.lst l)) (bk ct : L2.St → Hp → Prop) (rt : VK), Sub δ ((dls K [some (pt ps), some (gd1 g), none, none, none, none]).set 2 (some (dAt l))) → S K tNext { nx := NX K (fun i x => x = i) (fun _ => (dls K [some (pt ps), some (gd1 g), none, none, none, none]).set 2 (some (dAt l))) (fun i => pds (gainL g (ps.take i))) H1 (i + 1), rt := rt, bk := bk, ct := ct } δ (pds (gainL g (ps.take i)) ++ [pd (gainP g p)]) H1 :=
        fun δ bk ct rt u => s_end (i + 1) rfl (gain_snoc hp) u
      cases p with
      | rep k qs =>
        have hl := rep_len okp
        simp only [okP] at okp
        simp only [limP] at limp
        refine s_ifT (et_word (ev_ix (ev_var rfl) ev_int rfl) ev_str (w_eq _)) (s_app (ev_var rfl) (ev_tupD (ead_cons ev_str (ead_cons (ev_ix (ev_var rfl) ev_int rfl) (ead_cons (ev_call (ead_cons (ev_ix (ev_var rfl) ev_int rfl) (ead_cons (ev_var rfl) ead_nil)) ⟨qs, g, rfl, okp.2.2.1, limp, by omega, rfl⟩ (lf_pt _)) ead_nil)))) hc ?_)
        exact fin _ _ _ _ (sub_s (sub_s (sub_s (sub_n (sub_n (sub_n sub_nil))))))
      | sil n =>
        refine s_ifF (et_word (ev_ix (ev_var rfl) ev_int rfl) ev_str w_sr) (s_ifT (et_word (ev_ix (ev_var rfl) ev_int rfl) ev_str (w_eq _)) (s_app (ev_var rfl) (ev_var rfl) hc ?_))
        exact fin _ _ _ _ (sub_s (sub_s (sub_s (sub_n (sub_n (sub_n sub_nil))))))
      | part n s e gs =>
        have hg : gs.length ≤ 49 := limp
        refine s_ifF (et_word (ev_ix (ev_var rfl) ev_int rfl) ev_str w_pr) (s_ifF (et_word (ev_ix (ev_var rfl) ev_int rfl) ev_str w_ps) ?_)
        refine q_star (ds := [.str "part", .str (nmS n), .int s, .int e]) (d := gd gs) (ev_var rfl) ?_
        refine s_app (d := pd (gainP g (.part n s e gs))) (ev_var rfl) ?_ hc (fin _ _ _ _ (sub_s (sub_s (sub_s (sub_n (sub_n (sub_n sub_nil)))))))
        have ed : pd (gainP g (.part n s e gs)) = .tuple ([.str "part", .str (nmS n), .int s, .int e] ++ [.tuple (gs.map gd1 ++ [gd1 g])]) := by
          rw [← gd_snoc]
          rfl
        rw [ed]
        exact ev_cat (ev_tupL (ev_var rfl)) (ev_tupD (ead_cons (ev_cat (ev_var (i := 5) (P := Dd K (.tuple (gs.map gd1))) rfl) (ev_tupD (ead_cons (ev_var rfl) ead_nil)) (by simp; omega)) ead_nil)) (by simp)
      | smp xs gs =>
        have hg : gs.length ≤ 49 := limp
        refine s_ifF (et_word (ev_ix (ev_var rfl) ev_int rfl) ev_str w_mr) (s_ifF (et_word (ev_ix (ev_var rfl) ev_int rfl) ev_str w_ms) ?_)
        refine q_star (ds := [.str "samples", .tuple (ids xs)]) (d := gd gs) (ev_var rfl) ?_
        refine s_app (d := pd (gainP g (.smp xs gs))) (ev_var rfl) ?_ hc (fin _ _ _ _ (sub_s (sub_s (sub_s (sub_n (sub_n (sub_n sub_nil)))))))
        have ed : pd (gainP g (.smp xs gs)) = .tuple ([.str "samples", .tuple (ids xs)] ++ [.tuple (gs.map gd1 ++ [gd1 g])]) := by
          rw [← gd_snoc]
          rfl
        rw [ed]
        exact ev_cat (ev_tupL (ev_var rfl)) (ev_tupD (ead_cons (ev_cat (ev_var (i := 5) (P := Dd K (.tuple (gs.map gd1))) rfl) (ev_tupD (ead_cons (ev_var rfl) ead_nil)) (by simp; omega)) ead_nil)) (by simp)
    · rintro i rfl
      refine s_nx (s_retL (d := pt (gainL g ps)) ?_ rr.1 h0)
      have e : pds (gainL g (ps.take (pds ps).length)) = pds (gainL g ps) := by rw [pds_length, List.take_length]
      rw [e]
      exact evl_tup (ev_var rfl)
/-! ### the law's lengths -/
def R_ls (r : Nat) (ds : List PyData) (d : PyData) : Prop := ∃ p : Piece, ds = [pd p] ∧ okP p ∧ (∃ q, r = q + 1 ∧ limP p 50 q) ∧ plen p ≤ 1000000 ∧ d = .int (plen p)
theorem ok_law_size : ∀ r : Nat, FnOk P w K mg base CX0 r T.law_size.f T.law_size.fd ["_law_piece"] (spD K (R_ls r))
  | 0 => fn_none fun ds d ⟨_, _, _, ⟨q, e, _⟩, _⟩ => by omega
  | r + 1 => by
    have G_law_size := ok_law_size r
    refine ok_D T.law_size.F sc_law_size (fun ds d ⟨_, e, _⟩ => by rw [e]; rfl) (fun cdv A outer s H E hr => ⟨_, (pss_cons (ps_if (pt_cmpR op_eq (pe_ix ix_tup (pv 0) pe_int (fun _ _ => rfl)) pe_str (nomark _)) (pss_one (ps_ret (pe_op op_sub (pe_ix ix_tup (pv 0) pe_int (fun _ _ => rfl)) (pe_ix ix_tup (pv 0) pe_int (fun _ _ => rfl))))) pss_nil)
      (pss_cons (ps_if (pt_cmpR op_eq (pe_ix ix_tup (pv 0) pe_int (fun _ _ => rfl)) pe_str (nomark _)) (pss_one (ps_ret (pe_ix ix_tup (pv 0) pe_int (fun _ _ => rfl)))) pss_nil)
      (pss_one (ps_ret (pe_ifExp (pt_cmpR op_eq (pe_ix ix_tup (pv 0) pe_int (fun _ _ => rfl)) pe_str (nomark _)) (pe_callB call_len_seq (by rfl) T.n_len (by decide +kernel) (pa_cons (pe_ix ix_tup (pv 0) pe_int (fun _ _ => rfl)) pa_nil)) (pe_op op_mul (pe_ix ix_tup (pv 0) pe_int (fun _ _ => rfl)) (pe_callB (cr_sum rfl) (by rfl) T.n_sum (by decide +kernel) (pa_cons (pe_lc (own := [("_law_one", 1)]) (g := gName 1) (tt := tYes) (by rfl) sc_law_size.nd (pi_tup (pe_ix ix_tup (pv 0) pe_int (fun _ _ => rfl))) (blkOk_by (own := [("_law_one", 1)]) (N := ["_law_piece", "_law_one"]) (sc := defScope s_law_size) (by decide +kernel)) (fun _ _ _ _ _ => pg_name (i := 1) sc_law_size.nd rfl (Or.inl rfl)) (fun _ _ _ _ _ => pts_nil) (fun _ _ _ _ _ => (pe_call G_law_size (hr.mono (by omega)) rfl T.law_size.m T.law_size.F.kp T.law_size.b .nil pass0 (pa_cons (pv 1) pa_nil)))) pa_nil)))))))), ?_⟩)
    rintro ds d ⟨p, rfl, hok, ⟨q, hq, hlim⟩, hb, rfl⟩ D H0 rr
    have hqr : q = r := by omega
    subst hqr
    cases p with
    | part n s e g => exact q_ifT (et_word (ev_ix (ev_var rfl) ev_int rfl) ev_str (w_eq _)) (s_retD (ev_sub (ev_ix (ev_var rfl) ev_int rfl) (ev_ix (ev_var rfl) ev_int rfl)) rr.1)
    | sil n => exact q_ifF (et_word (ev_ix (ev_var rfl) ev_int rfl) ev_str w_sp) (q_ifT (et_word (ev_ix (ev_var rfl) ev_int rfl) ev_str (w_eq _)) (s_retD (ev_ix (ev_var rfl) ev_int rfl) rr.1))
    | smp xs g =>
      refine q_ifF (et_word (ev_ix (ev_var rfl) ev_int rfl) ev_str w_mp) (q_ifF (et_word (ev_ix (ev_var rfl) ev_int rfl) ev_str w_ms) (s_retD (d := .int (plen (.smp xs g))) (ev_ifT (et_word (ev_ix (ev_var rfl) ev_int rfl) ev_str (w_eq _)) ?_) rr.1))
      have e : plen (.smp xs g) = ((ids xs).length : Int) := by simp [plen, ids]
      rw [e]
      exact ev_lenT (ev_ix (ev_var rfl) ev_int rfl)
    | rep k ps =>
      have hl := rep_len hok
      refine q_ifF (et_word (ev_ix (ev_var rfl) ev_int rfl) ev_str w_rp) (q_ifF (et_word (ev_ix (ev_var rfl) ev_int rfl) ev_str w_rs) (s_retD (d := .int (plen (.rep k ps))) (ev_ifF (et_word (ev_ix (ev_var rfl) ev_int rfl) ev_str w_rm) ?_) rr.1))
      simp only [okP] at hok
      simp only [limP] at hlim
      obtain ⟨q', hq', hlim⟩ := hlim
      refine ev_mul (j := total ps) (ev_ix (ev_var rfl) ev_int rfl) ?_ (.inl ⟨by omega, by omega⟩)
      rw [← sum_total]
      refine ev_sum (ev_lcT (ev_ix (ev_var rfl) ev_int rfl) ?_ (lf_ids _) ?_ fun i d e hd he => ?_)
      · rw [pds_length]
        have := total_ge ps hok.2.2.1
        omega
      · rw [pds_length]
        simp [ids]
      · obtain ⟨p, hp, rfl⟩ := pds_get hd
        have hm := List.mem_of_getElem? hp
        have e2 : e = .int (plen p) := by
          unfold ids at he
          rw [List.getElem?_map, List.getElem?_map, hp] at he
          exact (Option.some.inj he).symm
        subst e2
        exact ev_call (ead_cons (ev_var rfl) ead_nil) ⟨p, rfl, okL_mem hok.2.2.1 hm, ⟨q', hq', limL_mem hlim hm⟩, by have := plen_mem hok.2.2.1 hm; omega, rfl⟩ rfl
/-! ### the law's joining -/
def R_lb (ds : List PyData) (d : PyData) : Prop := ∃ xs ys : List Piece, ds = [pt xs, pt ys] ∧ limL xs 50 20 ∧ limL ys 50 20 ∧ xs.length + ys.length ≤ 800000 ∧ d = pt (lboth xs ys)
def lastD : List Piece → PyData
  | [] => .tuple [.str "none", .none]
  | [x] => pd x
  | _ :: y :: r => lastD (y :: r)
theorem lastD_snoc : ∀ (i : List Piece) (x : Piece), lastD (i ++ [x]) = pd x
  | [], _ => rfl
  | [_], _ => rfl
  | _ :: b :: r, x => lastD_snoc (b :: r) x
theorem lf_lastD (F : List Piece) : LF (lastD F) = true := by
  rcases snoc_of F with h | ⟨i, x, h⟩
  · subst h; rfl
  · subst h; rw [lastD_snoc]; exact lf_pd x
theorem ok_law_both : FnOk P w K mg base CX0 1 T.law_both.f T.law_both.fd ["_law_first", "_law_second"] (spD K R_lb) := by
  refine ok_D T.law_both.F sc_law_both (fun ds d ⟨_, _, e, _⟩ => by rw [e]; rfl) (fun cdv A outer s H E hr => ⟨_, (pss_cons (ps_set (i := 2) sc_law_both.nd rfl (Or.inl rfl) (pe_callTy call_list_of (by rfl) T.n_list (by decide +kernel) (pa_cons (pv 0) pa_nil)))
      (pss_cons (ps_for PassesOwn.never rfl (pi_tup (pv 1)) (pg_name (i := 3) sc_law_both.nd rfl (Or.inl rfl)) (pss_cons (ps_set (i := 4) sc_law_both.nd rfl (Or.inl rfl) (pe_ifExp (pt_cmpR (op_neD hr.units) (pv 2) (pe_lst pa_nil) (nomark _)) (pe_ix ix_list (pv 2) (pe_un un_neg pe_int) (fun _ _ => rfl)) (pe_tup (pa_cons pe_str (pa_cons pe_non pa_nil)))))
      (pss_one (ps_if (PW.pt (pw_and (pt_cmpR op_eq (pe_ix ix_tup (pv 4) pe_int (fun _ _ => rfl)) pe_str (nomark _)) (pw_and1 (pt_cmpR op_eq (pe_ix ix_tup (pv 3) pe_int (fun _ _ => rfl)) pe_str (nomark _))))) (pss_one (ps_asg (pe_tup (pa_cons pe_str (pa_cons (pe_op op_add (pe_ix ix_tup (pv 4) pe_int (fun _ _ => rfl)) (pe_ix ix_tup (pv 3) pe_int (fun _ _ => rfl))) pa_nil))) (pg_sub (pv 2) (pe_un un_neg pe_int) set_list))) (pss_one (ps_if (PW.pt (pw_and (pt_cmpR op_eq (pe_ix ix_tup (pv 4) pe_int (fun _ _ => rfl)) pe_str (nomark _)) (pw_and (pt_cmpR op_eq (pe_ix ix_tup (pv 3) pe_int (fun _ _ => rfl)) pe_str (nomark _)) (pw_and1 (pt_cmpR (op_eqD hr.units) (pe_op op_catA (pe_slice sl_tupA (pv 4) (po_some pe_int) (po_some pe_int)) (pe_slice sl_tupA (pv 4) (po_some pe_int) po_none)) (pe_op op_catA (pe_slice sl_tupA (pv 3) (po_some pe_int) (po_some pe_int)) (pe_slice sl_tupA (pv 3) (po_some pe_int) po_none)) (nomark _)))))) (pss_one (ps_asg (pe_op op_catA (pe_slice sl_tupA (pv 4) po_none (po_some pe_int)) (pe_slice sl_tupA (pv 3) (po_some pe_int) po_none)) (pg_sub (pv 2) (pe_un un_neg pe_int) set_list))) (pss_one (ps_expr (pe_bm PySem.F.plainAttrs_list PySem.F.slot_list_append PySem.F.type_list_append mt_append (pv 2) (pa_cons (pv 3) pa_nil))))))))))
      (pss_one (ps_ret (pe_callTy call_tuple_of (by rfl) T.n_tuple (by decide +kernel) (pa_cons (pv 2) pa_nil)))))), ?_⟩)
  rintro ds d ⟨xs, ys, rfl, hl1, hl2, hn, rfl⟩ D H0 rr
  refine q_newL (en_list (ev_var rfl)) fun l h0 => ?_
  refine s_seq (s_forT (α := List Piece) (fun i F => lboth F (ys.drop i) = lboth xs ys ∧ limL F 50 20 ∧ F.length ≤ xs.length + i) (fun _ => (dls K [some (pt xs), some (pt ys), none, none, none]).set 2 (some (dAt l))) (fun F => pds F) xs (ev_var rfl) ⟨rfl, hl1, Nat.le_refl _⟩ rfl (sub_s (sub_s (sub_s (sub_n (sub_n sub_nil))))) ?_ ?_)
  · rintro i F d H1 hd ⟨hinv, hF, hFn⟩ _
    obtain ⟨y, hy, rfl⟩ := pds_get hd
    have hi := (List.getElem?_eq_some_iff.mp hy).1
    have hyl := limL_mem hl2 (List.mem_of_getElem? hy)
    rw [drop_at hy, lboth_one] at hinv
    have fin : ∀ (δ : Dl (.lst l)) (bk ct : L2.St → Hp → Prop) (rt : VK) (c : List PyData), c = pds (both F [y]) → Sub δ ((dls K [some (pt xs), some (pt ys), none, none, none]).set 2 (some (dAt l))) →
        S K tNext { nx := NX K (fun i F => lboth F (ys.drop i) = lboth xs ys ∧ limL F 50 20 ∧ F.length ≤ xs.length + i) (fun _ => (dls K [some (pt xs), some (pt ys), none, none, none]).set 2 (some (dAt l))) (fun F => pds F) H1 (i + 1), rt := rt, bk := bk, ct := ct } δ c H1 := fun δ bk ct rt c hc u =>
      s_end (both F [y]) ⟨hinv, both_lim _ _ hF ⟨hyl, trivial⟩, by have := both_len_le F [y]; simp at this; omega⟩ hc.symm u
    have hFs : SeqAt.shaped (.list (pds F)) = true := sh_pl hF (by omega)
    have ne : Ev K (m := .lst l) (tOp (rNeD K) (tVar 2) (tLst tNil)) (((dls K [some (pt xs), some (pt ys), none, none, none]).set 2 (some (dAt l))).set 3 (some (Dd K (pd y)))) (pds F) (Dd K (.bool (!decide (F = [])))) := by
      have h := evl_ne (K := K) (p := l) (c := pds F) (δ := (((dls K [some (pt xs), some (pt ys), none, none, none]).set 2 (some (dAt l))).set 3 (some (Dd K (pd y))))) (ta := tVar 2) (tb := tLst tNil) (e := .list []) (ev_var rfl) (ev_lstD ead_nil) hFs sh_nilL
      rw [eqv_nilL] at h
      exact h
    have hFc : (pds F).length < 1000000 := by rw [pds_length]; omega
    refine q_asg (P := Dd K (lastD F)) ?_ ?_
    · rcases snoc_of F with hx | ⟨j, x, hx⟩
      · subst hx
        exact ev_ifF (et_of ne) (ev_tupD (ead_cons ev_str (ead_cons ev_non ead_nil)))
      · have e1 : (!decide (F = [])) = true := by rw [hx]; simp
        rw [e1] at ne
        refine ev_ifT (et_of ne) (evl_ix (ev_var rfl) ev_m1 ?_)
        rw [hx, lastD_snoc, pds_append]
        exact atI_last _ _
    · rcases snoc_of F with hx | ⟨j, x, hx⟩
      · subst hx
        refine s_ifF (et_andF (et_word (ev_ix (ev_var rfl) ev_int rfl) ev_str w_ns)) (s_ifF (et_andF (et_word (ev_ix (ev_var rfl) ev_int rfl) ev_str w_np)) (s_app (ev_var rfl) (ev_var rfl) hFc ?_))
        exact fin _ _ _ _ _ rfl (sub_s (sub_s (sub_s (sub_n (sub_n sub_nil)))))
      · have el : lastD F = pd x := by rw [hx]; exact lastD_snoc j x
        rw [el]
        have eF : pds F = pds j ++ [pd x] := by rw [hx, pds_append]; rfl
        have hix : ixN (pds F).length (-1) = some j.length := by rw [eF, List.length_append, List.length_singleton, pds_length]; exact ixN_last _
        have hset : ∀ z : Piece, mrg x y = some z → (pds F).set j.length (pd z) = pds (both F [y]) := fun z hz => by
          rw [eF, ← pds_length j, set_snoc, hx, both_snoc, glue_cons_some hz, pds_append]
          rfl
        have happ : mrg x y = none → pds F ++ [pd y] = pds (both F [y]) := fun hz => by
          rw [hx, both_snoc, glue_cons_none hz]
          simp [pds_append, pds]
        have sub0 : ∀ {P3 P4 : De (.lst l)}, Sub ((((dls K [some (pt xs), some (pt ys), none, none, none]).set 2 (some (dAt l))).set 3 (some P3)).set 4 (some P4)) ((dls K [some (pt xs), some (pt ys), none, none, none]).set 2 (some (dAt l))) := sub_s (sub_s (sub_s (sub_n (sub_n sub_nil))))
        cases x with
        | sil a =>
          cases y with
          | sil b => exact s_ifT (et_andT (et_word (ev_ix (ev_var rfl) ev_int rfl) ev_str (w_eq _)) (et_word (ev_ix (ev_var rfl) ev_int rfl) ev_str (w_eq _))) (s_setL (d := pd (.sil (a + b))) (ev_tupD (ead_cons ev_str (ead_cons (ev_add (ev_ix (ev_var rfl) ev_int rfl) (ev_ix (ev_var rfl) ev_int rfl)) ead_nil))) (ev_var rfl) ev_m1 hix (fin _ _ _ _ _ (hset _ rfl) sub0))
          | part _ _ _ _ => exact s_ifF (et_andT (et_word (ev_ix (ev_var rfl) ev_int rfl) ev_str (w_eq _)) (et_word (ev_ix (ev_var rfl) ev_int rfl) ev_str w_ps)) (s_ifF (et_andF (et_word (ev_ix (ev_var rfl) ev_int rfl) ev_str w_sp)) (s_app (ev_var rfl) (ev_var rfl) hFc (fin _ _ _ _ _ (happ rfl) sub0)))
          | smp _ _ => exact s_ifF (et_andT (et_word (ev_ix (ev_var rfl) ev_int rfl) ev_str (w_eq _)) (et_word (ev_ix (ev_var rfl) ev_int rfl) ev_str w_ms)) (s_ifF (et_andF (et_word (ev_ix (ev_var rfl) ev_int rfl) ev_str w_sp)) (s_app (ev_var rfl) (ev_var rfl) hFc (fin _ _ _ _ _ (happ rfl) sub0)))
          | rep _ _ => exact s_ifF (et_andT (et_word (ev_ix (ev_var rfl) ev_int rfl) ev_str (w_eq _)) (et_word (ev_ix (ev_var rfl) ev_int rfl) ev_str w_rs)) (s_ifF (et_andF (et_word (ev_ix (ev_var rfl) ev_int rfl) ev_str w_sp)) (s_app (ev_var rfl) (ev_var rfl) hFc (fin _ _ _ _ _ (happ rfl) sub0)))
        | smp xs' g =>
          have em : mrg (.smp xs' g) y = none := by cases y <;> rfl
          exact s_ifF (et_andF (et_word (ev_ix (ev_var rfl) ev_int rfl) ev_str w_ms)) (s_ifF (et_andF (et_word (ev_ix (ev_var rfl) ev_int rfl) ev_str w_mp)) (s_app (ev_var rfl) (ev_var rfl) hFc (fin _ _ _ _ _ (happ em) sub0)))
        | rep k' ps' =>
          have em : mrg (.rep k' ps') y = none := by cases y <;> rfl
          exact s_ifF (et_andF (et_word (ev_ix (ev_var rfl) ev_int rfl) ev_str w_rs)) (s_ifF (et_andF (et_word (ev_ix (ev_var rfl) ev_int rfl) ev_str w_rp)) (s_app (ev_var rfl) (ev_var rfl) hFc (fin _ _ _ _ _ (happ em) sub0)))
        | part n s e g =>
          refine s_ifF (et_andF (et_word (ev_ix (ev_var rfl) ev_int rfl) ev_str w_ps)) ?_
          cases y with
          | sil b => exact s_ifF (et_andT (et_word (ev_ix (ev_var rfl) ev_int rfl) ev_str (w_eq _)) (et_andF (et_word (ev_ix (ev_var rfl) ev_int rfl) ev_str w_sp))) (s_app (ev_var rfl) (ev_var rfl) hFc (fin _ _ _ _ _ (happ rfl) sub0))
          | smp _ _ => exact s_ifF (et_andT (et_word (ev_ix (ev_var rfl) ev_int rfl) ev_str (w_eq _)) (et_andF (et_word (ev_ix (ev_var rfl) ev_int rfl) ev_str w_mp))) (s_app (ev_var rfl) (ev_var rfl) hFc (fin _ _ _ _ _ (happ rfl) sub0))
          | rep _ _ => exact s_ifF (et_andT (et_word (ev_ix (ev_var rfl) ev_int rfl) ev_str (w_eq _)) (et_andF (et_word (ev_ix (ev_var rfl) ev_int rfl) ev_str w_rp))) (s_app (ev_var rfl) (ev_var rfl) hFc (fin _ _ _ _ _ (happ rfl) sub0))
          | part n' s' e' g' =>
            have tst : EvT K (m := .lst l) (tTest (tOp (rEqD K) (tOp (rCatA K) (tSl (rSlA K) (tVar 4) (tPart (tC (.int 1))) (tPart (tC (.int 2)))) (tSl (rSlA K) (tVar 4) (tPart (tC (.int 3))) tNoPart)) (tOp (rCatA K) (tSl (rSlA K) (tVar 3) (tPart (tC (.int 1))) (tPart (tC (.int 3)))) (tSl (rSlA K) (tVar 3) (tPart (tC (.int 4))) tNoPart))))
                ((((dls K [some (pt xs), some (pt ys), none, none, none]).set 2 (some (dAt l))).set 3 (some (Dd K (pd (.part n' s' e' g'))))).set 4 (some (Dd K (pd (.part n s e g))))) (pds F) (decide (n = n' ∧ e = s' ∧ g = g')) :=
              (et_of (ev_eqD (d := .tuple [.str (nmS n), .int e, gd g]) (e := .tuple [.str (nmS n'), .int s', gd g'])
                (ev_cat (ds := [.str (nmS n)]) (es := [.int e, gd g]) (ev_sl (ds := [.str "part", .str (nmS n), .int s, .int e, gd g]) (ev_var rfl) (eo_some ev_int) (eo_some ev_int)) (ev_sl (ds := [.str "part", .str (nmS n), .int s, .int e, gd g]) (ev_var rfl) (eo_some ev_int) eo_none) (by simp))
                (ev_cat (ds := [.str (nmS n'), .int s']) (es := [gd g']) (ev_sl (ds := [.str "part", .str (nmS n'), .int s', .int e', gd g']) (ev_var rfl) (eo_some ev_int) (eo_some ev_int)) (ev_sl (ds := [.str "part", .str (nmS n'), .int s', .int e', gd g']) (ev_var rfl) (eo_some ev_int) eo_none) (by simp)) (sh_key _ _ _) (sh_key _ _ _))).to (eqv_key _ _ _ _ _ _)
            refine s_if (et_andT (et_word (ev_ix (ev_var rfl) ev_int rfl) ev_str (w_eq _)) (et_andT (et_word (ev_ix (ev_var rfl) ev_int rfl) ev_str (w_eq _)) tst)) (fun hb => ?_) (fun hb => ?_)
            · obtain ⟨h1, h2, h3⟩ := of_decide_eq_true hb
              have em : mrg (.part n s e g) (.part n' s' e' g') = some (.part n s e' g) := by simp [mrg, h1, h2, h3]
              refine s_setL (d := pd (.part n s e' g)) ?_ (ev_var rfl) ev_m1 hix (fin _ _ _ _ _ (hset _ em) sub0)
              have ed : pd (.part n s e' g) = .tuple ([.str "part", .str (nmS n), .int s] ++ [.int e', gd g']) := by rw [← h3]; rfl
              rw [ed]
              exact ev_cat (ev_sl (ds := [.str "part", .str (nmS n), .int s, .int e, gd g]) (ev_var rfl) eo_none (eo_some ev_int)) (ev_sl (ds := [.str "part", .str (nmS n'), .int s', .int e', gd g']) (ev_var rfl) (eo_some ev_int) eo_none) (by simp)
            · have em : mrg (.part n s e g) (.part n' s' e' g') = none := by
                simp only [mrg]
                rw [if_neg (of_decide_eq_false hb)]
              exact s_app (ev_var rfl) (ev_var rfl) hFc (fin _ _ _ _ _ (happ em) sub0)
  · rintro F ⟨hinv, hF, hFn⟩
    rw [pds_length, List.drop_length] at hinv
    have e : F = lboth xs ys := hinv
    subst e
    exact s_nx (s_retL (evl_tup (ev_var rfl)) rr.1 h0)
/-! ### the law's copies -/
theorem ok_law_copies : FnOk P w K mg base CX0 1 T.law_copies.f T.law_copies.fd ["_law_pieces_here", "_law_count"] (spD K R_rp) := by
  refine ok_D T.law_copies.F sc_law_copies (fun ds d ⟨_, _, e, _⟩ => by rw [e]; rfl) (fun cdv A outer s H E hr => ⟨_, (pss_cons (ps_if (PW.pt (pw_or (pt_cmpR op_eq (pv 1) pe_int (nomark _)) (pw_or1 (pt_cmpR (op_eqD hr.units) (pv 0) (pe_tup pa_nil) (nomark _))))) (pss_one (ps_ret (pe_tup pa_nil))) pss_nil)
      (pss_cons (ps_if (pt_cmpR op_eq (pv 1) pe_int (nomark _)) (pss_one (ps_ret (pv 0))) pss_nil)
      (pss_cons (ps_if (PW.pt (pw_and (pt_cmpR op_eq (pe_callB call_len_seq (by rfl) T.n_len (by decide +kernel) (pa_cons (pv 0) pa_nil)) pe_int (nomark _)) (pw_and1 (pt_cmpR op_eq (pe_ix ix_tup (pe_ix ix_tup (pv 0) pe_int (fun _ _ => rfl)) pe_int (fun _ _ => rfl)) pe_str (nomark _))))) (pss_one (ps_ret (pe_tup (pa_cons (pe_tup (pa_cons pe_str (pa_cons (pe_op op_mul (pe_ix ix_tup (pe_ix ix_tup (pv 0) pe_int (fun _ _ => rfl)) pe_int (fun _ _ => rfl)) (pv 1)) pa_nil))) pa_nil)))) pss_nil)
      (pss_cons (ps_if (PW.pt (pw_and (pt_cmpR op_eq (pe_callB call_len_seq (by rfl) T.n_len (by decide +kernel) (pa_cons (pv 0) pa_nil)) pe_int (nomark _)) (pw_and1 (pt_cmpR op_eq (pe_ix ix_tup (pe_ix ix_tup (pv 0) pe_int (fun _ _ => rfl)) pe_int (fun _ _ => rfl)) pe_str (nomark _))))) (pss_one (ps_ret (pe_tup (pa_cons (pe_tup (pa_cons pe_str (pa_cons (pe_op op_mul (pe_ix ix_tup (pe_ix ix_tup (pv 0) pe_int (fun _ _ => rfl)) pe_int (fun _ _ => rfl)) (pv 1)) (pa_cons (pe_ix ix_tup (pe_ix ix_tup (pv 0) pe_int (fun _ _ => rfl)) pe_int (fun _ _ => rfl)) pa_nil)))) pa_nil)))) pss_nil)
      (pss_one (ps_ret (pe_tup (pa_cons (pe_tup (pa_cons pe_str (pa_cons (pv 1) (pa_cons (pv 0) pa_nil)))) pa_nil)))))))), ?_⟩)
  rintro ds d ⟨ps, k, rfl, hl, hok, ht, rfl⟩ D H0 rr
  have sp := sh_pt hl (by omega)
  refine q_if (b := decide (k = 0) || decide (ps = [])) (et_or (et_int (ev_var rfl) ev_int rfl) fun _ => (et_of (ev_eqD (ev_var rfl) (ev_tupD ead_nil) sp sh_nil)).to (eqv_nil ps)) (fun hb => ?_) (fun hb => ?_)
  · have e : repd ps k = [] := by
      unfold repd
      rw [if_pos]
      simp only [Bool.or_eq_true, decide_eq_true_eq] at hb
      exact hb.imp id fun h => by rw [h]; rfl
    rw [e] at rr
    exact s_retD (ev_tupD ead_nil) rr.1
  · simp only [Bool.or_eq_false_iff, decide_eq_false_iff_not] at hb
    obtain ⟨h0, hn⟩ := hb
    have c0 : ¬ (k = 0 ∨ ps.isEmpty = true) := by
      rintro (h | h)
      · exact h0 h
      · exact hn (List.isEmpty_iff.mp h)
    refine q_if (b := decide (k = 1)) (et_int (ev_var rfl) ev_int rfl) (fun hb => ?_) (fun hb => ?_)
    · have h1 := of_decide_eq_true hb
      subst h1
      rw [repd_one] at rr
      exact s_retD (ev_var rfl) rr.1
    · have h1 := of_decide_eq_false hb
      cases ps with
      | nil => exact absurd rfl hn
      | cons p r =>
       cases r with
       | cons q r =>
        have ln : decide ((((pds (p :: q :: r)).length : Nat) : Int) = 1) = false := decide_eq_false (by rw [pds_length]; simp; omega)
        have e2 : repd (p :: q :: r) k = [.rep k (p :: q :: r)] := by simp [repd, h0, h1]
        rw [e2] at rr
        exact q_ifF (et_andF (et_int (ev_lenT (ev_var rfl)) ev_int ln)) (q_ifF (et_andF (et_int (ev_lenT (ev_var rfl)) ev_int ln)) (s_retD (ev_tupD (ead_cons (ev_tupD (ead_cons ev_str (ead_cons (ev_var rfl) (ead_cons (ev_var rfl) ead_nil)))) ead_nil)) rr.1))
       | nil =>
        have ln : decide ((((pds [p]).length : Nat) : Int) = 1) = true := rfl
        have hp := plen_pos p hok.1
        simp only [total] at ht
        cases p with
        | sil n =>
          have e2 : repd [.sil n] k = [.sil (n * k)] := by simp [repd, h0, h1]
          rw [e2] at rr
          simp only [plen] at ht hp
          exact q_ifT (et_andT (et_int (ev_lenT (ev_var rfl)) ev_int ln) (et_word (ev_ix (ev_ix (ev_var rfl) ev_int (atI_zero _ _)) ev_int rfl) ev_str (w_eq _)))
            (s_retD (ev_tupD (ead_cons (ev_tupD (ead_cons ev_str (ead_cons (ev_mul (ev_ix (ev_ix (ev_var rfl) ev_int (atI_zero _ _)) ev_int rfl) (ev_var rfl) (.inl ⟨by omega, by omega⟩)) ead_nil))) ead_nil)) rr.1)
        | rep j qs =>
          have e2 : repd [.rep j qs] k = [.rep (j * k) qs] := by simp [repd, h0, h1]
          rw [e2] at rr
          have hl2 := rep_len hok.1
          have hok2 := hok.1
          simp only [okP] at hok2
          exact q_ifF (et_andT (et_int (ev_lenT (ev_var rfl)) ev_int ln) (et_word (ev_ix (ev_ix (ev_var rfl) ev_int (atI_zero _ _)) ev_int rfl) ev_str w_rs))
            (q_ifT (et_andT (et_int (ev_lenT (ev_var rfl)) ev_int ln) (et_word (ev_ix (ev_ix (ev_var rfl) ev_int (atI_zero _ _)) ev_int rfl) ev_str (w_eq _)))
            (s_retD (ev_tupD (ead_cons (ev_tupD (ead_cons ev_str (ead_cons (ev_mul (ev_ix (ev_ix (ev_var rfl) ev_int (atI_zero _ _)) ev_int rfl) (ev_var rfl) (.inl ⟨by omega, by omega⟩)) (ead_cons (ev_ix (ev_ix (ev_var rfl) ev_int (atI_zero _ _)) ev_int rfl) ead_nil)))) ead_nil)) rr.1))
        | part n s e g =>
          have e2 : repd [.part n s e g] k = [.rep k [.part n s e g]] := by simp [repd, h0, h1]
          rw [e2] at rr
          exact q_ifF (et_andT (et_int (ev_lenT (ev_var rfl)) ev_int ln) (et_word (ev_ix (ev_ix (ev_var rfl) ev_int (atI_zero _ _)) ev_int rfl) ev_str w_ps))
            (q_ifF (et_andT (et_int (ev_lenT (ev_var rfl)) ev_int ln) (et_word (ev_ix (ev_ix (ev_var rfl) ev_int (atI_zero _ _)) ev_int rfl) ev_str w_pr))
            (s_retD (ev_tupD (ead_cons (ev_tupD (ead_cons ev_str (ead_cons (ev_var rfl) (ead_cons (ev_var rfl) ead_nil)))) ead_nil)) rr.1))
        | smp xs g =>
          have e2 : repd [.smp xs g] k = [.rep k [.smp xs g]] := by simp [repd, h0, h1]
          rw [e2] at rr
          exact q_ifF (et_andT (et_int (ev_lenT (ev_var rfl)) ev_int ln) (et_word (ev_ix (ev_ix (ev_var rfl) ev_int (atI_zero _ _)) ev_int rfl) ev_str w_ms))
            (q_ifF (et_andT (et_int (ev_lenT (ev_var rfl)) ev_int ln) (et_word (ev_ix (ev_ix (ev_var rfl) ev_int (atI_zero _ _)) ev_int rfl) ev_str w_mr))
            (s_retD (ev_tupD (ead_cons (ev_tupD (ead_cons ev_str (ead_cons (ev_var rfl) (ead_cons (ev_var rfl) ead_nil)))) ead_nil)) rr.1))
end
end Cl

/-! part W6 -/
namespace Cl
open PySem L2
section
variable {P : Program} {w : World} {K : Frg} {mg : Str → Option Value} {base : Heap} (T : Tx K mg)
def R_st (r : Nat) (ds : List PyData) (d : PyData) : Prop := ∃ (ps : List Piece) (a b : Int), ds = [pt ps, .int a, .int b] ∧ okL ps ∧ (∃ q, r = q + 1 ∧ limL ps 50 q) ∧ r ≤ 20 ∧ total ps ≤ 100000 ∧ a ≤ b ∧ d = pt (strG ps [] a b)
theorem ok_law_stretch : ∀ r : Nat, FnOk P w K mg base CX0 (r + 2) T.law_stretch.f T.law_stretch.fd ["_law_pieces_here", "_law_start_here", "_law_end_here"] (spD K (R_st r))
  | 0 => (fn_none fun ds d ⟨_, _, _, _, _, ⟨q, e, _⟩, _⟩ => by omega : FnOk P w K mg base CX0 0 T.law_stretch.f T.law_stretch.fd ["_law_pieces_here", "_law_start_here", "_law_end_here"] (spD K (R_st 0))).mono (by omega)
  | r + 1 => by
    have G_law_stretch := ok_law_stretch r
    have G_law_size := ok_law_size (P := P) (w := w) (base := base) T (r + 1)
    have G_law_both := ok_law_both (P := P) (w := w) (base := base) T
    have G_law_copies := ok_law_copies (P := P) (w := w) (base := base) T
    refine ok_D T.law_stretch.F sc_law_stretch (fun ds d ⟨_, _, _, e, _⟩ => by rw [e]; rfl) (fun cdv A outer s H E hr => ⟨_, (pss_cons (ps_set (i := 3) sc_law_stretch.nd rfl (Or.inl rfl) (pe_tup pa_nil))
      (pss_cons (ps_for PassesOwn.never rfl (pi_tup (pv 0)) (pg_name (i := 4) sc_law_stretch.nd rfl (Or.inl rfl)) (pss_cons (ps_set (i := 5) sc_law_stretch.nd rfl (Or.inl rfl) (pe_call G_law_size (hr.mono (by omega)) rfl T.law_size.m T.law_size.F.kp T.law_size.b .nil pass0 (pa_cons (pv 4) pa_nil)))
      (pss_cons (ps_par (i := 6) (j := 7) (by rfl) sc_law_stretch.nd rfl rfl (by decide) rfl rfl (pa_cons (pe_callB (call_min2 rfl) (by rfl) T.n_min (by decide +kernel) (pa_cons (pe_callB (call_max2 rfl) (by rfl) T.n_max (by decide +kernel) (pa_cons (pv 1) (pa_cons pe_int pa_nil))) (pa_cons (pv 5) pa_nil))) (pa_cons (pe_callB (call_min2 rfl) (by rfl) T.n_min (by decide +kernel) (pa_cons (pe_callB (call_max2 rfl) (by rfl) T.n_max (by decide +kernel) (pa_cons (pv 2) (pa_cons pe_int pa_nil))) (pa_cons (pv 5) pa_nil))) pa_nil)) (by rfl))
      (pss_cons (ps_par (i := 1) (j := 2) (by rfl) sc_law_stretch.nd rfl rfl (by decide) rfl rfl (pa_cons (pe_op op_sub (pv 1) (pv 5)) (pa_cons (pe_op op_sub (pv 2) (pv 5)) pa_nil)) (by rfl))
      (pss_one (ps_if (PW.pt (pw_and (pt_cmpR op_lt (pv 6) (pv 7) (nomark _)) (pw_and1 (pt_cmpR op_eq (pe_ix ix_tup (pv 4) pe_int (fun _ _ => rfl)) pe_str (nomark _))))) (pss_one (ps_set (i := 3) sc_law_stretch.nd rfl (Or.inl rfl) (pe_call G_law_both (hr.mono (by omega)) rfl T.law_both.m T.law_both.F.kp T.law_both.b .nil pass0 (pa_cons (pv 3) (pa_cons (pe_tup (pa_cons (pe_op op_catA (pe_op op_catA (pe_slice sl_tupA (pv 4) po_none (po_some pe_int)) (pe_tup (pa_cons (pe_op op_add (pe_ix ix_tup (pv 4) pe_int (fun _ _ => rfl)) (pv 6)) (pa_cons (pe_op op_add (pe_ix ix_tup (pv 4) pe_int (fun _ _ => rfl)) (pv 7)) pa_nil)))) (pe_slice sl_tupA (pv 4) (po_some pe_int) po_none)) pa_nil)) pa_nil))))) (pss_one (ps_if (PW.pt (pw_and (pt_cmpR op_lt (pv 6) (pv 7) (nomark _)) (pw_and1 (pt_cmpR op_eq (pe_ix ix_tup (pv 4) pe_int (fun _ _ => rfl)) pe_str (nomark _))))) (pss_one (ps_set (i := 3) sc_law_stretch.nd rfl (Or.inl rfl) (pe_call G_law_both (hr.mono (by omega)) rfl T.law_both.m T.law_both.F.kp T.law_both.b .nil pass0 (pa_cons (pv 3) (pa_cons (pe_tup (pa_cons (pe_tup (pa_cons pe_str (pa_cons (pe_op op_sub (pv 7) (pv 6)) pa_nil))) pa_nil)) pa_nil))))) (pss_one (ps_if (PW.pt (pw_and (pt_cmpR op_lt (pv 6) (pv 7) (nomark _)) (pw_and1 (pt_cmpR op_eq (pe_ix ix_tup (pv 4) pe_int (fun _ _ => rfl)) pe_str (nomark _))))) (pss_one (ps_set (i := 3) sc_law_stretch.nd rfl (Or.inl rfl) (pe_call G_law_both (hr.mono (by omega)) rfl T.law_both.m T.law_both.F.kp T.law_both.b .nil pass0 (pa_cons (pv 3) (pa_cons (pe_tup (pa_cons (pe_tup (pa_cons pe_str (pa_cons (pe_slice sl_tupA (pe_ix ix_tup (pv 4) pe_int (fun _ _ => rfl)) (po_some (pv 6)) (po_some (pv 7))) (pa_cons (pe_ix ix_tup (pv 4) pe_int (fun _ _ => rfl)) pa_nil)))) pa_nil)) pa_nil))))) (pss_one (ps_if (pt_cmpR op_lt (pv 6) (pv 7) (nomark _)) (pss_cons (ps_set (i := 8) sc_law_stretch.nd rfl (Or.inl rfl) (pe_ix ix_tup (pv 4) pe_int (fun _ _ => rfl)))
      (pss_cons (ps_set (i := 9) sc_law_stretch.nd rfl (Or.inl rfl) (pe_op op_fdiv (pv 5) (pe_ix ix_tup (pv 4) pe_int (fun _ _ => rfl))))
      (pss_cons (ps_par (i := 10) (j := 11) (by rfl) sc_law_stretch.nd rfl rfl (by decide) rfl rfl (pa_cons (pe_op op_fdiv (pe_op op_sub (pe_op op_add (pv 6) (pv 9)) pe_int) (pv 9)) (pa_cons (pe_op op_fdiv (pv 7) (pv 9)) pa_nil)) (by rfl))
      (pss_one (ps_if (pt_cmpR op_gt (pv 10) (pv 11) (nomark _)) (pss_one (ps_set (i := 3) sc_law_stretch.nd rfl (Or.inl rfl) (pe_call G_law_both (hr.mono (by omega)) rfl T.law_both.m T.law_both.F.kp T.law_both.b .nil pass0 (pa_cons (pv 3) (pa_cons (pe_call G_law_stretch (hr.mono (by omega)) rfl T.law_stretch.m T.law_stretch.F.kp T.law_stretch.b .nil pass0 (pa_cons (pv 8) (pa_cons (pe_op op_sub (pv 6) (pe_op op_mul (pv 11) (pv 9))) (pa_cons (pe_op op_sub (pv 7) (pe_op op_mul (pv 11) (pv 9))) pa_nil)))) pa_nil))))) (pss_cons (ps_set (i := 3) sc_law_stretch.nd rfl (Or.inl rfl) (pe_call G_law_both (hr.mono (by omega)) rfl T.law_both.m T.law_both.F.kp T.law_both.b .nil pass0 (pa_cons (pv 3) (pa_cons (pe_ifExp (pt_cmpR op_lt (pv 6) (pe_op op_mul (pv 10) (pv 9)) (nomark _)) (pe_call G_law_stretch (hr.mono (by omega)) rfl T.law_stretch.m T.law_stretch.F.kp T.law_stretch.b .nil pass0 (pa_cons (pv 8) (pa_cons (pe_op op_sub (pv 6) (pe_op op_mul (pe_op op_sub (pv 10) pe_int) (pv 9))) (pa_cons (pv 9) pa_nil)))) (pe_tup pa_nil)) pa_nil))))
      (pss_cons (ps_set (i := 3) sc_law_stretch.nd rfl (Or.inl rfl) (pe_call G_law_both (hr.mono (by omega)) rfl T.law_both.m T.law_both.F.kp T.law_both.b .nil pass0 (pa_cons (pv 3) (pa_cons (pe_call G_law_copies (hr.mono (by omega)) rfl T.law_copies.m T.law_copies.F.kp T.law_copies.b .nil pass0 (pa_cons (pv 8) (pa_cons (pe_op op_sub (pv 11) (pv 10)) pa_nil))) pa_nil))))
      (pss_one (ps_set (i := 3) sc_law_stretch.nd rfl (Or.inl rfl) (pe_call G_law_both (hr.mono (by omega)) rfl T.law_both.m T.law_both.F.kp T.law_both.b .nil pass0 (pa_cons (pv 3) (pa_cons (pe_call G_law_stretch (hr.mono (by omega)) rfl T.law_stretch.m T.law_stretch.F.kp T.law_stretch.b .nil pass0 (pa_cons (pv 8) (pa_cons pe_int (pa_cons (pe_op op_sub (pv 7) (pe_op op_mul (pv 11) (pv 9))) pa_nil)))) pa_nil)))))))))))) pss_nil))))))))))))
      (pss_one (ps_ret (pv 3))))), ?_⟩)
    rintro ds d ⟨ps, a, b, rfl, hok, ⟨q, hq, hlim⟩, hr20, htot, hab, rfl⟩ D H0 rr
    have hqr : q = r := by omega
    subst hqr
    have hR : ((strG ps [] a b).length : Int) ≤ total ps := by
      rw [str_eq hok hab]
      exact cutL_len2 a b hok
    refine q_asg (P := Dd K (pt [])) (ev_tupD ead_nil) ?_
    refine s_seq (s_forT (α := List Piece × Int × Int) (fun i x => strG (ps.drop i) x.1 x.2.1 x.2.2 = strG ps [] a b ∧ okL x.1 ∧ limL x.1 50 20 ∧ x.2.1 ≤ x.2.2) (fun x => dls K [some (pt ps), some (.int x.2.1), some (.int x.2.2), some (pt x.1), none, none, none, none, none, none, none, none]) (fun _ => []) ([], a, b)
      (ev_var rfl) ⟨rfl, trivial, trivial, hab⟩ rfl (sub_s (sub_s (sub_s (sub_s (sub_n (sub_n (sub_n (sub_n (sub_n (sub_n (sub_n (sub_n sub_nil)))))))))))) ?_ ?_)
    · rintro i ⟨F, u, v⟩ d H1 hd ⟨hinv, hF, hFl, huv⟩ _
      obtain ⟨p, hp, rfl⟩ := pds_get hd
      have hm := List.mem_of_getElem? hp
      have okp := okL_mem hok hm
      have limp := limL_mem hlim hm
      have lenp := plen_mem hok hm
      have posp := plen_pos p okp
      have hod : okL (ps.drop i) := by
        have : ∀ (l : List Piece) (i : Nat), okL l → okL (l.drop i) := by
          intro l
          induction l with
          | nil => intro i _; cases i <;> trivial
          | cons x l ih =>
            intro i h
            cases i with
            | zero => exact h
            | succ i => exact ih i h.2
        exact this ps i hok
      have hFn : F.length ≤ 100000 := by
        have h := (both_len F (cutR (ps.drop i) u v)).1
        simp only at hinv huv
        rw [← strG_eq _ _ _ _ hod huv, hinv] at h
        omega
      rw [drop_at hp, strG] at hinv
      simp only at hinv hF hFl huv
      have fin : ∀ (δ : Dl .non) (bk ct : L2.St → Hp → Prop) (rt : VK) (F' : List Piece), F' = (if min (max u 0) (plen p) < min (max v 0) (plen p) then strP p F (min (max u 0) (plen p)) (min (max v 0) (plen p)) else F) →
          Sub δ (dls K [some (pt ps), some (.int (u - plen p)), some (.int (v - plen p)), some (pt F'), none, none, none, none, none, none, none, none]) →
          S K tNext { nx := NX K (fun i (x : List Piece × Int × Int) => strG (ps.drop i) x.1 x.2.1 x.2.2 = strG ps [] a b ∧ okL x.1 ∧ limL x.1 50 20 ∧ x.2.1 ≤ x.2.2) (fun x => dls K [some (pt ps), some (.int x.2.1), some (.int x.2.2), some (pt x.1), none, none, none, none, none, none, none, none]) (fun _ => []) H1 (i + 1), rt := rt, bk := bk, ct := ct } δ [] H1 := fun δ bk ct rt F' hF' u' => by
        subst hF'
        refine s_end (_, u - plen p, v - plen p) ⟨hinv, ?_, ?_, by simp only; omega⟩ rfl u'
        · show okL (if _ then _ else _)
          split
          · rename_i c
            rw [strP_eq p F _ _ okp (by omega) c (by omega)]
            exact both_ok _ _ hF (cutP_ok p _ _ okp (by omega) c (by omega)).1
          · exact hF
        · show limL (if _ then _ else _) 50 20
          split
          · rename_i c
            rw [strP_eq p F _ _ okp (by omega) c (by omega)]
            exact both_lim _ _ hFl (limL_mono _ (Nat.le_refl _) (by omega) (cutP_lim p _ _ limp))
          · exact hFl
      refine q_asg (ev_call (ead_cons (ev_var rfl) ead_nil) ⟨p, rfl, okp, ⟨q, rfl, limp⟩, by omega, rfl⟩ rfl) ?_
      refine q_par (ea_cons (ev_min2 (ev_max2 (ev_var rfl) ev_int) (ev_var rfl)) (ea_cons (ev_min2 (ev_max2 (ev_var rfl) ev_int) (ev_var rfl)) ea_nil)) ?_
      refine q_par (ea_cons (ev_sub (ev_var rfl) (ev_var rfl)) (ea_cons (ev_sub (ev_var rfl) (ev_var rfl)) ea_nil)) ?_
      have x0 : 0 ≤ min (max u 0) (plen p) := by omega
      have y1 : min (max v 0) (plen p) ≤ plen p := by omega
      generalize hx : min (max u 0) (plen p) = x at *
      generalize hy : min (max v 0) (plen p) = y at *
      have lt : ∀ {δ : Dl .non} {b : Bool}, δ[6]? = some (some (Dd K (.int x))) → δ[7]? = some (some (Dd K (.int y))) → decide (x < y) = b → EvT K (tTest (tOp (rI0 fun i j => .bl (decide (i < j))) (tVar 6) (tVar 7))) δ [] b := fun h1 h2 h3 => (et_of (ev_lt (ev_var h1) (ev_var h2))).to h3
      by_cases hlt : x < y
      · have hl := decide_eq_true hlt
        cases p with
        | part n s e g =>
          refine s_ifT (et_andT (lt rfl rfl hl) (et_word (ev_ix (ev_var rfl) ev_int rfl) ev_str (w_eq _))) ?_
          refine s_asg (P := Dd K (pt (lboth F [.part n (s + x) (s + y) g]))) (ev_call (ead_cons (ev_var rfl) (ead_cons (ev_tupD (ead_cons (d := pd (.part n (s + x) (s + y) g)) ?_ ead_nil)) ead_nil)) ⟨F, [.part n (s + x) (s + y) g], rfl, hFl, ⟨(show g.length ≤ 50 from limp), trivial⟩, by simp; omega, rfl⟩ (lf_pt _)) ?_
          · show Ev K _ _ _ (Dd K (.tuple (([.str "part", .str (nmS n)] ++ [.int (s + x), .int (s + y)]) ++ [gd g])))
            refine ev_cat (ds := [.str "part", .str (nmS n)] ++ [.int (s + x), .int (s + y)]) (es := [gd g]) ?_ ?_ (by simp)
            · refine ev_cat (ds := [.str "part", .str (nmS n)]) (es := [.int (s + x), .int (s + y)]) ?_ ?_ (by simp)
              · exact ev_sl (ds := [.str "part", .str (nmS n), .int s, .int e, gd g]) (ev_var rfl) eo_none (eo_some ev_int)
              · exact ev_tupD (ead_cons (ev_add (ev_ix (ev_var rfl) ev_int rfl) (ev_var rfl)) (ead_cons (ev_add (ev_ix (ev_var rfl) ev_int rfl) (ev_var rfl)) ead_nil))
            · exact ev_sl (ds := [.str "part", .str (nmS n), .int s, .int e, gd g]) (ev_var rfl) (eo_some ev_int) eo_none
          · exact fin _ _ _ _ (lboth F [.part n (s + x) (s + y) g]) (by rw [if_pos hlt]; rfl) (sub_s (sub_s (sub_s (sub_s (sub_n (sub_n (sub_n (sub_n (sub_n (sub_n (sub_n (sub_n sub_nil))))))))))))
        | sil n =>
          refine s_ifF (et_andT (lt rfl rfl hl) (et_word (ev_ix (ev_var rfl) ev_int rfl) ev_str w_sp)) (s_ifT (et_andT (lt rfl rfl hl) (et_word (ev_ix (ev_var rfl) ev_int rfl) ev_str (w_eq _))) ?_)
          refine s_asg (P := Dd K (pt (lboth F [.sil (y - x)]))) (ev_call (ead_cons (ev_var rfl) (ead_cons (ev_tupD (ead_cons (ev_tupD (ead_cons ev_str (ead_cons (ev_sub (ev_var rfl) (ev_var rfl)) ead_nil))) ead_nil)) ead_nil)) ⟨F, [.sil (y - x)], rfl, hFl, ⟨trivial, trivial⟩, by simp; omega, rfl⟩ (lf_pt _)) ?_
          exact fin _ _ _ _ (lboth F [.sil (y - x)]) (by rw [if_pos hlt]; rfl) (sub_s (sub_s (sub_s (sub_s (sub_n (sub_n (sub_n (sub_n (sub_n (sub_n (sub_n (sub_n sub_nil))))))))))))
        | smp zs g =>
          refine s_ifF (et_andT (lt rfl rfl hl) (et_word (ev_ix (ev_var rfl) ev_int rfl) ev_str w_mp)) (s_ifF (et_andT (lt rfl rfl hl) (et_word (ev_ix (ev_var rfl) ev_int rfl) ev_str w_ms)) (s_ifT (et_andT (lt rfl rfl hl) (et_word (ev_ix (ev_var rfl) ev_int rfl) ev_str (w_eq _))) ?_))
          simp only [plen] at y1
          have c1 := ids_sl zs x0 hlt y1
          refine s_asg (P := Dd K (pt (lboth F [.smp (sl zs x y) g]))) (ev_call (ead_cons (ev_var rfl) (ead_cons (ev_tupD (ead_cons (ev_tupD (ead_cons ev_str (ead_cons (d := .tuple (ids (sl zs x y))) ?_ (ead_cons (ev_ix (ev_var rfl) ev_int rfl) ead_nil)))) ead_nil)) ead_nil)) ⟨F, [.smp (sl zs x y) g], rfl, hFl, ⟨(show g.length ≤ 50 from limp), trivial⟩, by simp; omega, rfl⟩ (lf_pt _)) ?_
          · rw [← c1]
            exact ev_sl (ev_ix (ev_var rfl) ev_int rfl) (eo_some (ev_var rfl)) (eo_some (ev_var rfl))
          · exact fin _ _ _ _ (lboth F [.smp (sl zs x y) g]) (by rw [if_pos hlt]; rfl) (sub_s (sub_s (sub_s (sub_s (sub_n (sub_n (sub_n (sub_n (sub_n (sub_n (sub_n (sub_n sub_nil))))))))))))
        | rep k qs =>
          refine s_ifF (et_andT (lt rfl rfl hl) (et_word (ev_ix (ev_var rfl) ev_int rfl) ev_str w_rp)) (s_ifF (et_andT (lt rfl rfl hl) (et_word (ev_ix (ev_var rfl) ev_int rfl) ev_str w_rs)) (s_ifF (et_andT (lt rfl rfl hl) (et_word (ev_ix (ev_var rfl) ev_int rfl) ev_str w_rm)) (s_ifT (lt rfl rfl hl) ?_)))
          have hl3 := rep_len okp
          have okq := okp
          simp only [okP] at okq
          simp only [limP] at limp
          obtain ⟨q', hq', limq⟩ := limp
          have hO : k * total qs / k = total qs := Int.mul_ediv_cancel_left _ (by omega)
          have z0 := hl3.2.2
          have hkz : k * total qs = plen (.rep k qs) := rfl
          have hst : strP (.rep k qs) F x y = if (x + k * total qs / k - 1) / (k * total qs / k) > y / (k * total qs / k) then lboth F (strG qs [] (x - y / (k * total qs / k) * (k * total qs / k)) (y - y / (k * total qs / k) * (k * total qs / k)))
              else lboth (lboth (lboth F (if x < (x + k * total qs / k - 1) / (k * total qs / k) * (k * total qs / k) then strG qs [] (x - ((x + k * total qs / k - 1) / (k * total qs / k) - 1) * (k * total qs / k)) (k * total qs / k) else []))
                (repd qs (y / (k * total qs / k) - (x + k * total qs / k - 1) / (k * total qs / k)))) (strG qs [] 0 (y - y / (k * total qs / k) * (k * total qs / k))) := by simp only [strP]
          refine q_asg (P := Dd K (pt qs)) (ev_ix (ev_var rfl) ev_int rfl) ?_
          refine q_asg (P := Dd K (.int (k * total qs / k))) (ev_fdiv (ev_var rfl) (ev_ix (ev_var rfl) ev_int rfl) ⟨by omega, by omega⟩) ?_
          generalize hOz : k * total qs / k = O at *
          have cd : ∀ t, CDiv t O := fun t => ⟨by omega, by omega⟩
          have cm : ∀ t, CMul t O := fun t => .inr ⟨by omega, by omega⟩
          refine q_par (ea_cons (ev_fdiv (ev_sub (ev_add (ev_var rfl) (ev_var rfl)) ev_int) (ev_var rfl) (cd _)) (ea_cons (ev_fdiv (ev_var rfl) (ev_var rfl) (cd _)) ea_nil)) ?_
          have lo0 : 0 ≤ (x + O - 1) / O := Int.ediv_nonneg (by omega) (by omega)
          have rb1 := dm y O
          have rb2 := Int.emod_nonneg y (by omega : O ≠ 0)
          have rb3 := Int.emod_lt_of_pos y (by omega : 0 < O)
          generalize hlo : (x + O - 1) / O = lo at *
          generalize hhi : y / O = hi at *
          have hS : ∀ s t : Int, s ≤ t → R_st q [pt qs, .int s, .int t] (pt (strG qs [] s t)) := fun s t hst => ⟨qs, s, t, rfl, okq.2.2.1, ⟨q', hq', limq⟩, by omega, by omega, hst, rfl⟩
          have hSl : ∀ s t : Int, s ≤ t → limL (strG qs [] s t) 50 20 ∧ (strG qs [] s t).length ≤ 100000 ∧ Nrm (strG qs [] s t) := fun s t hst => by
            have e := str_eq (a := s) (b := t) okq.2.2.1 hst
            have h2 := cutL_len2 s t okq.2.2.1
            rw [e]
            exact ⟨by rw [cutL_eq]; exact limL_mono _ (Nat.le_refl _) (by omega) (cutR_lim qs s t limq), by omega, (cutL_ok okq.2.2.1 s t).2⟩
          by_cases hgt : lo > hi
          · refine s_ifT ((et_of (ev_gt (ev_var rfl) (ev_var rfl))).to (decide_eq_true hgt)) ?_
            rw [if_pos hgt] at hst
            have hs := hSl (x - hi * O) (y - hi * O) (by omega)
            refine s_asg (ev_call (ead_cons (ev_var rfl) (ead_cons (ev_call (ead_cons (ev_var rfl) (ead_cons (ev_sub (ev_var rfl) (ev_mul (ev_var rfl) (ev_var rfl) (cm _))) (ead_cons (ev_sub (ev_var rfl) (ev_mul (ev_var rfl) (ev_var rfl) (cm _))) ead_nil))) (hS _ _ (by omega)) (lf_pt _)) ead_nil)) ⟨F, _, rfl, hFl, hs.1, by omega, rfl⟩ (lf_pt _)) ?_
            exact fin _ _ _ _ _ (by rw [if_pos hlt, hst]) (sub_s (sub_s (sub_s (sub_s (sub_n (sub_n (sub_n (sub_n (sub_n (sub_n (sub_n (sub_n sub_nil))))))))))))
          · refine s_ifF ((et_of (ev_gt (ev_var rfl) (ev_var rfl))).to (decide_eq_false hgt)) ?_
            rw [if_neg hgt] at hst
            have rn : ((repd qs (hi - lo)).length : Int) ≤ 100000 ∧ limL (repd qs (hi - lo)) 50 20 ∧ Nrm (repd qs (hi - lo)) := by
              have o := repd_ok qs (hi - lo) (by omega) okq.2.2.1 okq.2.2.2
              have t := total_ge _ o.1
              have e := repd_total qs (hi - lo)
              have m : (hi - lo) * total qs ≤ hi * total qs := Int.mul_le_mul_of_nonneg_right (by omega) (by omega)
              rw [hO] at rb1 rb2 rb3
              exact ⟨by omega, limL_mono _ (Nat.le_refl _) (by omega) (repd_lim qs (hi - lo) limq), o.2⟩
            have hs3 := hSl 0 (y - hi * O) (by omega)
            have hX : ∀ X : List Piece, limL X 50 20 → X.length ≤ 100000 → Nrm X → limL (lboth F X) 50 20 ∧ (lboth F X).length ≤ 200000 := fun X h1 h2 h3 => by
              refine ⟨lboth_lim _ _ hFl h1, ?_⟩
              rw [lboth_eq _ _ h3]
              have := both_len_le F X
              omega
            have step : ∀ (X : List Piece) (δ : Dl .non), limL X 50 20 → X.length ≤ 100000 → Nrm X → ∀ (bk ct : L2.St → Hp → Prop) (rt : VK),
                (if x < lo * O then strG qs [] (x - (lo - 1) * O) O else []) = X → δ = dls K [some (pt ps), some (.int (u - plen (.rep k qs))), some (.int (v - plen (.rep k qs))), some (pt (lboth F X)), some (pd (.rep k qs)), some (.int (plen (.rep k qs))), some (.int x), some (.int y), some (pt qs), some (.int O), some (.int lo), some (.int hi)] →
                S K (tSeq (tAsg (tCall (spD K R_lb) [] E0 (tCons (tVar 3) (tCons (tCall (spD K R_rp) [] E0 (tCons (tVar 8) (tCons (tOp (rI0 fun i j => .int (i - j)) (tVar 11) (tVar 10)) tNil))) tNil))) (gName 3)) (tAsg (tCall (spD K R_lb) [] E0 (tCons (tVar 3) (tCons (tCall (spD K (R_st q)) [] E0 (tCons (tVar 8) (tCons (tC (.int 0)) (tCons (tOp (rI0 fun i j => .int (i - j)) (tVar 7) (tOp (rI CMul fun i j => .int (i * j)) (tVar 11) (tVar 9))) tNil)))) tNil))) (gName 3)))
                  { nx := NX K (fun i (x : List Piece × Int × Int) => strG (ps.drop i) x.1 x.2.1 x.2.2 = strG ps [] a b ∧ okL x.1 ∧ limL x.1 50 20 ∧ x.2.1 ≤ x.2.2) (fun x => dls K [some (pt ps), some (.int x.2.1), some (.int x.2.2), some (pt x.1), none, none, none, none, none, none, none, none]) (fun _ => []) H1 (i + 1), rt := rt, bk := bk, ct := ct } δ [] H1 := fun X δ h1 h2 h3 bk ct rt hXe hδ => by
              subst hδ
              have hx1 := hX X h1 h2 h3
              refine q_asg (ev_call (ead_cons (ev_var rfl) (ead_cons (ev_call (ead_cons (ev_var rfl) (ead_cons (ev_sub (ev_var rfl) (ev_var rfl)) ead_nil)) ⟨qs, _, rfl, limL_mono _ (Nat.le_refl _) (by omega) limq, okq.2.2.1, by omega, rfl⟩ (lf_pt _)) ead_nil)) ⟨_, _, rfl, hx1.1, rn.2.1, by omega, rfl⟩ (lf_pt _)) ?_
              have hx2 : limL (lboth (lboth F X) (repd qs (hi - lo))) 50 20 := lboth_lim _ _ hx1.1 rn.2.1
              have hx3 : (lboth (lboth F X) (repd qs (hi - lo))).length ≤ 300000 := by
                rw [lboth_eq _ _ rn.2.2]
                have := both_len_le (lboth F X) (repd qs (hi - lo))
                omega
              refine s_asg (ev_call (ead_cons (ev_var rfl) (ead_cons (ev_call (ead_cons (ev_var rfl) (ead_cons ev_int (ead_cons (ev_sub (ev_var rfl) (ev_mul (ev_var rfl) (ev_var rfl) (cm _))) ead_nil))) (hS _ _ (by omega)) (lf_pt _)) ead_nil)) ⟨_, _, rfl, hx2, hs3.1, by omega, rfl⟩ (lf_pt _)) ?_
              exact fin _ _ _ _ _ (by rw [if_pos hlt, hst, hXe]) (sub_s (sub_s (sub_s (sub_s (sub_n (sub_n (sub_n (sub_n (sub_n (sub_n (sub_n (sub_n sub_nil))))))))))))
            by_cases hfl : x < lo * O
            · have e1 : x - (lo - 1) * O ≤ O := by rw [Int.sub_mul]; omega
              have hs1 := hSl (x - (lo - 1) * O) O e1
              refine q_asg (P := Dd K (pt (lboth F (strG qs [] (x - (lo - 1) * O) O)))) (ev_call (ead_cons (ev_var rfl) (ead_cons (d := pt (strG qs [] (x - (lo - 1) * O) O)) (ev_ifT ((et_of (ev_lt (ev_var rfl) (ev_mul (ev_var rfl) (ev_var rfl) (cm _)))).to (decide_eq_true hfl))
                (ev_call (ead_cons (ev_var rfl) (ead_cons (ev_sub (ev_var rfl) (ev_mul (ev_sub (ev_var rfl) ev_int) (ev_var rfl) (cm _))) (ead_cons (ev_var rfl) ead_nil))) (hS _ _ e1) (lf_pt _))) ead_nil)) ⟨F, _, rfl, hFl, hs1.1, by omega, rfl⟩ (lf_pt _)) ?_
              exact step _ _ hs1.1 hs1.2.1 hs1.2.2 _ _ _ (if_pos hfl) rfl
            · refine q_asg (P := Dd K (pt (lboth F []))) (ev_call (ead_cons (ev_var rfl) (ead_cons (d := pt []) (ev_ifF ((et_of (ev_lt (ev_var rfl) (ev_mul (ev_var rfl) (ev_var rfl) (cm _)))).to (decide_eq_false hfl)) (ev_tupD ead_nil)) ead_nil)) ⟨F, [], rfl, hFl, trivial, by simp; omega, rfl⟩ (lf_pt _)) ?_
              exact step [] _ trivial (Nat.zero_le _) trivial _ _ _ (if_neg hfl) rfl
      · have hl := decide_eq_false hlt
        refine s_ifF (et_andF (lt rfl rfl hl)) (s_ifF (et_andF (lt rfl rfl hl)) (s_ifF (et_andF (lt rfl rfl hl)) (s_ifF (lt rfl rfl hl) ?_)))
        exact fin _ _ _ _ F (by rw [if_neg hlt]) (sub_s (sub_s (sub_s (sub_s (sub_n (sub_n (sub_n (sub_n (sub_n (sub_n (sub_n (sub_n sub_nil))))))))))))
    · rintro ⟨F, u, v⟩ ⟨hinv, hF, hFl, huv⟩
      rw [pds_length, List.drop_length] at hinv
      have e : F = strG ps [] a b := hinv
      subst e
      exact s_nx (s_retD (ev_var rfl) rr.1)
/-! ### the law's gains -/
theorem ok_law_gained : ∀ r : Nat, FnOk P w K mg base CX0 r T.law_gained.f T.law_gained.fd ["_law_pieces_here", "_law_gain"] (spD K (R_gp r))
  | 0 => fn_none fun ds d ⟨_, _, _, _, ⟨q, e, _⟩, _⟩ => by omega
  | r + 1 => by
    have G_law_gained := ok_law_gained r
    refine ok_D T.law_gained.F sc_law_gained (fun ds d ⟨_, _, e, _⟩ => by rw [e]; rfl) (fun cdv A outer s H E hr => ⟨_, (pss_cons (ps_set (i := 2) sc_law_gained.nd rfl (Or.inl rfl) (pe_tup pa_nil))
      (pss_cons (ps_for PassesOwn.never rfl (pi_tup (pv 0)) (pg_name (i := 3) sc_law_gained.nd rfl (Or.inl rfl)) (pss_one (ps_if (pt_cmpR op_eq (pe_ix ix_tup (pv 3) pe_int (fun _ _ => rfl)) pe_str (nomark _)) (pss_one (ps_set (i := 2) sc_law_gained.nd rfl (Or.inl rfl) (pe_op op_catA (pv 2) (pe_tup (pa_cons (pe_op op_catA (pe_slice sl_tupA (pv 3) po_none (po_some pe_int)) (pe_tup (pa_cons (pe_call G_law_gained (hr.mono (by omega)) rfl T.law_gained.m T.law_gained.F.kp T.law_gained.b .nil pass0 (pa_cons (pe_ix ix_tup (pv 3) pe_int (fun _ _ => rfl)) (pa_cons (pv 1) pa_nil))) pa_nil))) pa_nil))))) (pss_one (ps_if (pt_cmpR op_eq (pe_ix ix_tup (pv 3) pe_int (fun _ _ => rfl)) pe_str (nomark _)) (pss_one (ps_set (i := 2) sc_law_gained.nd rfl (Or.inl rfl) (pe_op op_catA (pv 2) (pe_tup (pa_cons (pv 3) pa_nil))))) (pss_one (ps_set (i := 2) sc_law_gained.nd rfl (Or.inl rfl) (pe_op op_catA (pv 2) (pe_tup (pa_cons (pe_op op_catA (pe_slice sl_tupA (pv 3) po_none (po_some (pe_un un_neg pe_int))) (pe_tup (pa_cons (pe_op op_catA (pe_ix ix_tup (pv 3) (pe_un un_neg pe_int) (fun _ _ => rfl)) (pe_tup (pa_cons (pv 1) pa_nil))) pa_nil))) pa_nil))))))))))
      (pss_one (ps_ret (pv 2))))), ?_⟩)
    rintro ds d ⟨ps, g, rfl, hok, ⟨q, hq, hlim⟩, htot, rfl⟩ D H0 rr
    have hqr : q = r := by omega
    subst hqr
    have hn := total_ge ps hok
    refine q_asg (P := Dd K (pt [])) (ev_tupD ead_nil) ?_
    refine s_seq (s_forT (α := Nat) (fun i x => x = i) (fun i => dls K [some (pt ps), some (gd1 g), some (pt (gainL g (ps.take i))), none]) (fun _ => []) 0 (ev_var rfl) rfl rfl (sub_s (sub_s (sub_s (sub_n sub_nil)))) ?_ ?_)
    · rintro i x d H1 hd hx _
      have hx' : i = x := hx.symm
      subst hx'
      obtain ⟨p, hp, rfl⟩ := pds_get hd
      have hm := List.mem_of_getElem? hp
      have okp := okL_mem hok hm
      have limp := limL_mem hlim hm
      have lenp := plen_mem hok hm
      have hc : (pds (gainL g (ps.take i))).length ≤ 500000 := by
        rw [pds_length, gainL_map, List.length_map, List.length_take]
        omega
      have key : ∀ (te : TE) (δ : Dl .non), δ = (dls K [some (pt ps), some (gd1 g), some (pt (gainL g (ps.take i))), some (pd p)]) → Ev K te δ [] (Dd K (pd (gainP g p))) →
          ∀ (bk ct : L2.St → Hp → Prop) (rt : VK), S K (tAsg (tOp (rCatA K) (tVar 2) (tTup (tCons te tNil))) (gName 2)) { nx := NX K (fun i x => x = i) (fun i => dls K [some (pt ps), some (gd1 g), some (pt (gainL g (ps.take i))), none]) (fun _ => []) H1 (i + 1), rt := rt, bk := bk, ct := ct } δ [] H1 := fun te δ hδ h bk ct rt => by
        subst hδ
        refine s_asg (P := Dd K (pt (gainL g (ps.take (i + 1))))) ?_ (s_end (i + 1) rfl rfl (sub_s (sub_s (sub_s (sub_n sub_nil)))))
        unfold pt
        rw [gain_snoc hp]
        exact ev_cat (ev_var rfl) (ev_tupD (ead_cons h ead_nil)) (by simp only [List.length_singleton]; omega)
      cases p with
      | rep k qs =>
        have hl := rep_len okp
        simp only [okP] at okp
        simp only [limP] at limp
        refine s_ifT (et_word (ev_ix (ev_var rfl) ev_int rfl) ev_str (w_eq _)) (key _ _ rfl ?_ _ _ _)
        exact ev_cat (ds := [.str "repeat", .int k]) (es := [pt (gainL g qs)]) (ev_sl (ds := [.str "repeat", .int k, pt qs]) (ev_var rfl) eo_none (eo_some ev_int)) (ev_tupD (ead_cons (ev_call (ead_cons (ev_ix (ev_var rfl) ev_int rfl) (ead_cons (ev_var rfl) ead_nil)) ⟨qs, g, rfl, okp.2.2.1, limp, by omega, rfl⟩ (lf_pt _)) ead_nil)) (by simp)
      | sil n => exact s_ifF (et_word (ev_ix (ev_var rfl) ev_int rfl) ev_str w_sr) (s_ifT (et_word (ev_ix (ev_var rfl) ev_int rfl) ev_str (w_eq _)) (key _ _ rfl (ev_var rfl) _ _ _))
      | part n s e gs =>
        have hg : gs.length ≤ 49 := limp
        refine s_ifF (et_word (ev_ix (ev_var rfl) ev_int rfl) ev_str w_pr) (s_ifF (et_word (ev_ix (ev_var rfl) ev_int rfl) ev_str w_ps) (key _ _ rfl ?_ _ _ _))
        have ed : pd (gainP g (.part n s e gs)) = .tuple ([.str "part", .str (nmS n), .int s, .int e] ++ [.tuple (gs.map gd1 ++ [gd1 g])]) := by
          rw [← gd_snoc]
          rfl
        rw [ed]
        exact ev_cat (ds := [.str "part", .str (nmS n), .int s, .int e]) (ev_sl (ds := [.str "part", .str (nmS n), .int s, .int e, gd gs]) (ev_var rfl) eo_none (eo_some ev_m1)) (ev_tupD (ead_cons (ev_cat (ev_ix (d := .tuple (gs.map gd1)) (ds := [.str "part", .str (nmS n), .int s, .int e, gd gs]) (ev_var rfl) ev_m1 rfl) (ev_tupD (ead_cons (ev_var rfl) ead_nil)) (by simp; omega)) ead_nil)) (by simp)
      | smp xs gs =>
        have hg : gs.length ≤ 49 := limp
        refine s_ifF (et_word (ev_ix (ev_var rfl) ev_int rfl) ev_str w_mr) (s_ifF (et_word (ev_ix (ev_var rfl) ev_int rfl) ev_str w_ms) (key _ _ rfl ?_ _ _ _))
        have ed : pd (gainP g (.smp xs gs)) = .tuple ([.str "samples", .tuple (ids xs)] ++ [.tuple (gs.map gd1 ++ [gd1 g])]) := by
          rw [← gd_snoc]
          rfl
        rw [ed]
        exact ev_cat (ds := [.str "samples", .tuple (ids xs)]) (ev_sl (ds := [.str "samples", .tuple (ids xs), gd gs]) (ev_var rfl) eo_none (eo_some ev_m1)) (ev_tupD (ead_cons (ev_cat (ev_ix (d := .tuple (gs.map gd1)) (ds := [.str "samples", .tuple (ids xs), gd gs]) (ev_var rfl) ev_m1 rfl) (ev_tupD (ead_cons (ev_var rfl) ead_nil)) (by simp; omega)) ead_nil)) (by simp)
    · rintro i rfl
      have e : gainL g (ps.take (pds ps).length) = gainL g ps := by rw [pds_length, List.take_length]
      rw [e]
      exact s_nx (s_retD (ev_var rfl) rr.1)
end
end Cl

/-! part W7 -/
namespace Cl
open PySem L2
/-! ### clips -/
def flds (u : V) (n : Int) : List (Str × V) := [("own_pieces", u), ("own_length", .int n)]
theorem fl_ne : (("own_length" : Str) == "own_pieces") = false := by decide +kernel
theorem fl_ne2 : (("own_pieces" : Str) == "own_length") = false := by decide +kernel
theorem fl_ne3 : ¬ (("own_pieces" : Str) = "own_length") := fun h => by
  have q := fl_ne2
  rw [h, beq_self_eq_true] at q
  cases q
theorem lk_p (u : V) (n : Int) : (flds u n).lookup ("own_pieces" : Str) = some u := by simp [flds, List.lookup]
theorem lk_l (u : V) (n : Int) : (flds u n).lookup ("own_length" : Str) = some (V.int n) := by simp [flds, List.lookup, fl_ne]
theorem lk_no (u : V) (n : Int) {m : Str} (h1 : (m == ("own_pieces" : Str)) = false) (h2 : (m == ("own_length" : Str)) = false) : (flds u n).lookup m = none := by simp [flds, List.lookup, h1, h2]
def dClip (K : Frg) (C : Addr) {m : Mo} (ps : List Piece) : De m := ⟨fun v H => ∃ x dx u, v = .ref x ∧ del m H x = some (.ins C dx (flds u (total ps))) ∧ Dp K (del m H) u (pt ps), fun v H H' l ⟨x, dx, u, e, h, p⟩ => ⟨x, dx, u, e, l _ _ h, Dp.mono l _ _ p⟩⟩
/-- what every clip is -/
structure Cok (ps : List Piece) : Prop where
  ok : okL ps
  nrm : Nrm ps
  lim : limL ps 40 6
  tot : total ps ≤ 20000
  cnt : pcounts ps ≤ 200
theorem Cok.nil : Cok [] := ⟨trivial, trivial, trivial, by simp only [total]; omega, by simp only [pcounts]; omega⟩
/-! ### promises with descriptors -/
def spQ {α : Type} (As : α → List (De .non)) (pre : α → Prop) (R : α → De .non) : Sp := fun vs H Q _ => ∃ x, pre x ∧ AllP (As x) vs H ∧ ∀ v H', Same H H' → (R x).p v H' → Q v H'
def startP (N : List Str) (As : List (De .non)) : Dl .non := As.map some ++ List.replicate (N.length - As.length) none
theorem dp_start {K : Frg} {H : Hp} {N : List Str} {As : List (De .non)} {vs : List V} (h : AllP As vs H) : DS K (m := .non) H (L2.start N vs) (startP N As) [] where
  wf := trivial
  len := by
    unfold L2.start startP
    rw [List.length_append, List.length_append, List.length_map, List.length_map, List.length_replicate, List.length_replicate, h.length]
  at_ := fun i P e => by
    have hl := h.length
    unfold startP at e
    by_cases hi : i < As.length
    · rw [List.getElem?_append_left (by rw [List.length_map]; exact hi), List.getElem?_map] at e
      have q : ∀ {As : List (De .non)} {vs : List V} {i : Nat} {P : De .non}, AllP As vs H → As[i]? = some P → ∃ v, vs[i]? = some v ∧ P.p v H := by
        intro As
        induction As with
        | nil => intro vs i P _ e; simp at e
        | cons A As ih =>
          intro vs i P h e
          cases h with
          | cons h t =>
            cases i with
            | zero => simp at e; subst e; exact ⟨_, rfl, h⟩
            | succ i =>
              obtain ⟨v, e1, p⟩ := ih (i := i) t (by simpa using e)
              exact ⟨v, by simpa using e1, p⟩
      cases eA : As[i]? with
      | none => rw [eA] at e; cases e
      | some A =>
        rw [eA] at e
        cases e
        obtain ⟨v, e1, p⟩ := q h eA
        refine ⟨v, ?_, p⟩
        unfold L2.start
        rw [List.getElem?_append_left (by rw [List.length_map, ← hl]; exact hi), List.getElem?_map, e1]
        rfl
    · rw [List.getElem?_append_right (by rw [List.length_map]; omega), List.getElem?_replicate] at e
      split at e <;> cases e
  ct := fun a e => nomatch e
def RQ (D : Ends) (H0 : Hp) (R : De .non) : Prop := (∀ v H, Same H0 H → R.p v H → D.rt v H) ∧ (∀ σ H, Same H0 H → R.p .non H → D.nx σ H)
def Up {m : Mo} (P : De m) (P' : De .non) : Prop := ∀ v H, WF m H → P.p v H → P'.p v H
def Dn {m : Mo} (P' : De .non) (P : De m) : Prop := ∀ v H, WF m H → P'.p v H → P.p v H
inductive UpA {m : Mo} : List (De m) → List (De .non) → Prop where
  | nil : UpA [] []
  | cons {P : De m} {P' : De .non} {Ps : List (De m)} {Ps' : List (De .non)} : Up P P' → UpA Ps Ps' → UpA (P :: Ps) (P' :: Ps')
theorem UpA.go {m : Mo} {H : Hp} (w : WF m H) : ∀ {Ps : List (De m)} {Ps' : List (De .non)} {vs : List V}, UpA Ps Ps' → AllP Ps vs H → AllP Ps' vs H
  | _, _, _, .nil, .nil => .nil
  | _, _, _, .cons u t, .cons h q => .cons (u _ _ w h) (UpA.go w t q)
section
variable {K : Frg} {C : Addr} {m : Mo} {δ : Dl m} {c : List PyData} {P P' : De m} {ta tb te : TE} {d : PyData} {ps : List Piece} {E : XK} {α : Type} {As : α → List (De .non)} {pre : α → Prop} {R : α → De .non}
theorem up_d : Up (m := m) (Dd K d) (Dd K d) := fun v H w p => by
  show Dp K (del .non H) v d
  rw [del_non]
  exact Dp.mono del_sub _ _ p
theorem dn_d (h : LF d = true) : Dn (m := m) (Dd K d) (Dd K d) := fun v H w p => by
  have p : Dp K (del .non H) v d := p
  rw [del_non] at p
  exact dp_del w h p
theorem up_clip : Up (m := m) (dClip K C ps) (dClip K C ps) := fun v H w ⟨x, dx, u, e, h, p⟩ => by
  refine ⟨x, dx, u, e, ?_, ?_⟩
  · rw [del_non]
    exact del_sub _ _ h
  · rw [del_non]
    exact Dp.mono del_sub _ _ p
theorem dn_clip : Dn (m := m) (dClip K C ps) (dClip K C ps) := fun v H w ⟨x, dx, u, e, h, p⟩ => by
  rw [del_non] at h p
  refine ⟨x, dx, u, e, ?_, dp_del w (lf_pt _) p⟩
  rw [del_ne]
  · exact h
  · intro q
    obtain ⟨xs, r⟩ := w.sm q.symm
    rw [h] at r
    cases r
theorem dn_same {P : De .non} : Dn P P := fun _ _ _ p => p
theorem ev_callQ {tr : TA} {Ps : List (De m)} (x : α) (h : EvA K tr δ c Ps) (hp : pre x) (up : UpA Ps (As x)) (dn : Dn (R x) P) : Ev K (tCall (spQ As pre R) [] E tr) δ c P := fun σ H Q s q =>
  h σ H _ s fun vs H1 l1 ps => ⟨x, hp, by rw [List.append_nil]; exact up.go (l1.wf s.wf) ps, fun v H2 e p => q v H2 (l1.trans (Le.of (l1.wf s.wf) e)) (dn v H2 ((Le.of (l1.wf s.wf) e).wf (l1.wf s.wf)) p)⟩
theorem ev_methQ {tr : TA} {Ps : List (De m)} {mn : Str} (x : α) (ho : Ev K ta δ c (dClip K C ps)) (hm : (mn == ("own_pieces" : Str)) = false ∧ (mn == ("own_length" : Str)) = false) (h : EvA K tr δ c Ps) (hp : pre x) (up : UpA (dClip K C ps :: Ps) (As x)) (dn : Dn (R x) P) :
    Ev K (tMeth C mn (spQ As pre R) [] E ta tr) δ c P := fun σ H Q s q =>
  ho σ H _ s fun v H0 l0 p0 => by
    obtain ⟨y, dx, u, e, hy, hu⟩ := id p0
    subst e
    refine ⟨y, dx, _, rfl, del_sub _ _ hy, lk_no _ _ hm.1 hm.2, h σ H0 _ (s.mono l0) fun vs H1 l1 ps => ?_⟩
    have w := l1.wf (l0.wf s.wf)
    exact ⟨x, hp, by rw [List.append_nil]; exact up.go w (.cons ((dClip K C _).mono _ _ _ l1.ex p0) ps), fun v H2 e p => q v H2 ((l0.trans l1).trans (Le.of w e)) (dn v H2 ((Le.of w e).wf w) p)⟩
/-- x + y, x == y by the class -/
theorem ev_ownQ {xs ys : List Piece} (x : α) (ha : Ev K ta δ c (dClip K C xs)) (hb : Ev K tb δ c (dClip K C ys)) (hp : pre x) (up : UpA (m := m) [dClip K C xs, dClip K C ys] (As x)) (dn : Dn (R x) P) :
    Ev K (tOp (rOwn C (spQ As pre R) E) ta tb) δ c P := ev_op ha hb fun a b H Q w p1 p2 q => by
  obtain ⟨y, dx, u, e, hy, hu⟩ := id p1
  obtain ⟨y2, dx2, u2, e2, hy2, hu2⟩ := id p2
  subst e e2
  exact ⟨y, y2, dx, dx2, _, _, rfl, rfl, del_sub _ _ hy, del_sub _ _ hy2, x, hp, up.go w (.cons p1 (.cons p2 .nil)), fun v H2 e p => q v H2 (Le.of w e) (dn v H2 ((Le.of w e).wf w) p)⟩
theorem ev_ownI {xs : List Piece} {i : Int} (x : α) (ha : Ev K ta δ c (dClip K C xs)) (hb : Ev K tb δ c (Dd K (.int i))) (hp : pre x) (up : UpA (m := m) [dClip K C xs, Dd K (.int i)] (As x)) (dn : Dn (R x) P) :
    Ev K (tOp (rOwnI C (spQ As pre R) E) ta tb) δ c P := ev_op ha hb fun a b H Q w p1 p2 q => by
  obtain ⟨y, dx, u, e, hy, hu⟩ := id p1
  subst e
  cases p2
  exact ⟨y, i, dx, _, rfl, rfl, del_sub _ _ hy, x, hp, up.go w (.cons p1 (.cons (.int i) .nil)), fun v H2 e p => q v H2 (Le.of w e) (dn v H2 ((Le.of w e).wf w) p)⟩
theorem ev_fldP (cl : Cls K C) (n : NoAttr K C "own_pieces") (h : Ev K te δ c (dClip K C ps)) : Ev K (tFld K te "own_pieces") δ c (Dd K (pt ps)) := fun σ H Q s q =>
  h σ H _ s fun v H1 l1 ⟨x, dx, u, e, hx, p⟩ => ⟨x, C, dx, _, u, e, del_sub _ _ hx, cl, n, lk_p _ _, q u H1 l1 p⟩
theorem ev_fldL (cl : Cls K C) (n : NoAttr K C "own_length") (h : Ev K te δ c (dClip K C ps)) : Ev K (tFld K te "own_length") δ c (Dd K (.int (total ps))) := fun σ H Q s q =>
  h σ H _ s fun v H1 l1 ⟨x, dx, u, e, hx, p⟩ => ⟨x, C, dx, _, _, e, del_sub _ _ hx, cl, n, lk_l _ _, q _ H1 l1 (.int _)⟩
theorem ev_prop (h : Ev K te δ c (dClip K C ps)) : Ev K (tProp C (getSp C "own_length") [] E te) δ c (Dd K (.int (total ps))) := fun σ H Q s q =>
  h σ H _ s fun v H1 l1 ⟨x, dx, u, e, hx, p⟩ => ⟨x, dx, _, e, del_sub _ _ hx, x, dx, _, _, rfl, del_sub _ _ hx, lk_l _ _, q _ H1 l1 (.int _)⟩
/-- Clip(..) -/
def spInit (K : Frg) (C : Addr) : Sp := fun vs H Q _ => ∃ (x dx : Addr) (u : V) (ps : List Piece) (H0 : Hp), vs = [.ref x, u] ∧ Same H0 H ∧ H0 x = none ∧ H x = some (.ins C dx []) ∧ Dp K H0 u (pt ps) ∧ Cok ps ∧
  ∀ H', Same H0 H' → H' x = some (.ins C dx (flds u (total ps))) → Q .non H'
theorem ev_make {tr : TA} (h : EvA K tr δ c [Dd K (pt ps)]) (hc : Cok ps) : Ev K (tMake C (spInit K C) [] E tr) δ c (dClip K C ps) := fun σ H Q s q =>
  h σ H _ s fun vs H1 l1 pp => by
    cases pp with
    | @cons _ u _ _ p t =>
      cases t
      intro x dx hx hdx hne
      have w := l1.wf s.wf
      have e1 : Same H1 (upd (upd H1 dx (.own x)) x (.ins C dx [])) := fun b o e => by
        rw [upd_ne (ne_of_none e hx), upd_ne (ne_of_none e hdx)]
        exact e
      refine ⟨x, dx, u, ps, H1, rfl, e1, hx, upd_same, Dp.mono del_sub _ _ p, hc, fun H2 e2 h2 => ⟨rfl, q _ H2 (l1.trans (Le.of w e2)) ⟨x, dx, u, rfl, ?_, Dp.mono (del_same e2) _ _ p⟩⟩⟩
      rw [del_ne (w.ne hx)]
      exact h2
end
section
variable {P : Program} {w : World} {K : Frg} {mg : Str → Option Value} {base : Heap}
theorem ok_Q {x qual : Str} {st : Stmt} {f : Addr} {fd : FuncData} {N ps : List Str} {k : Nat} {α : Type} {As : α → List (De .non)} {pre : α → Prop} {R : α → De .non} (F : Fun K x qual st f fd) (Sc : FnScope N ps (defScope st)) (hlen : ∀ x, (As x).length = ps.length)
    (hbody : ∀ (cdv : Value) (A : Around) (outer : List Env) (s : Shared) (H : Hp) (E : XK), Room k (A.deeper (PyProof.Rows.envOfC qual (defScope st) s.heap.objs.size f cdv)) →
      ∃ t, PSs (cxOf CX0 P w K mg base N qual (defScope st) f cdv A outer s H E).nox (defBody st) t ∧ ∀ x, pre x → ∀ (D : Ends) (H0 : Hp), RQ D H0 (R x) → S K (m := .non) t D (startP N (As x)) [] H0) :
    FnOk P w K mg base CX0 (k + 1) f fd ps (spQ As pre R) := by
  refine F.ok Sc (fun vs H Q E h => ?_) (fun cdv A outer s H vs Q E hr h => ?_)
  · obtain ⟨x, _, ha, _⟩ := h
    rw [← ha.length]
    exact hlen x
  · obtain ⟨x, hp, ha, q⟩ := h
    obtain ⟨t, ht, hs⟩ := hbody cdv A outer s H E hr
    exact ⟨t, ht, hs x hp _ H ⟨fun v H' e p => q v H' e p, fun σ H' e p => q .non H' e p⟩ _ _ (dp_start ha) (Same.refl _)⟩
theorem s_retQ {te : TE} {δ : Dl .non} {c : List PyData} {D : Ends} {H0 : Hp} {R : De .non} (h : Ev K te δ c R) (r : ∀ v H, Same H0 H → R.p v H → D.rt v H) : S K (tRet te) D δ c H0 := s_ret h fun v H l w p => r v H (ls_non l) p
theorem s_endQ {δ : Dl .non} {c : List PyData} {D : Ends} {H0 : Hp} (r : ∀ σ H, Same H0 H → (Dd (m := .non) K .none).p .non H → D.nx σ H) : S K tNext D δ c H0 := fun σ H s l => r σ H (ls_non l) .non
variable (T : Tx K mg)
theorem ok_c_init : FnOk P w K mg base CX0 15 T.c_init.f T.c_init.fd ["self", "pieces"] (spInit K T.C) := by
  have G_total_length := (ok_pltl (P := P) (w := w) (base := base) T 7).1
  have G_piece_count := ok_piece_count (P := P) (w := w) (base := base) T 7
  refine T.c_init.F.ok sc_c_init (fun vs H Q E h => ?_) (fun cdv A outer s H vs Q E hr h => ?_)
  · obtain ⟨x, dx, u, ps, H0, rfl, _⟩ := h
    rfl
  obtain ⟨x, dx, u, ps, H0, rfl, e0, hx0, hx, hu, hc, q⟩ := h
  refine ⟨_, (pss_cons (ps_fld (pv 0) (pe_callTy call_tuple_of (by rfl) T.n_tuple (by decide +kernel) (pa_cons (pv 1) pa_nil)) rfl)
      (pss_cons (ps_fld (pv 0) (pe_call G_total_length (hr.mono (by omega)) rfl T.total_length.m T.total_length.F.kp T.total_length.b .nil pass0 (pa_cons (pe_fld (pv 0) rfl) pa_nil)) rfl)
      (pss_cons (ps_if (pt_cmpR op_gt (pe_fld (pv 0) rfl) (pe_glob (v := .int (10 ^ 40)) (by rfl) T.m_MAX_LENGTH ⟨_, rfl⟩) (nomark _)) (pss_one ps_never) pss_nil)
      (pss_one (ps_if (pt_cmpR op_gt (pe_call G_piece_count (hr.mono (by omega)) rfl T.piece_count.m T.piece_count.F.kp T.piece_count.b .nil pass0 (pa_cons (pe_fld (pv 0) rfl) pa_nil)) (pe_glob (v := .int 200) (by rfl) T.m_MAX_PIECES ⟨_, rfl⟩) (nomark _)) (pss_one ps_never) pss_nil))))), ?_⟩
  have hlim : limL ps 50 6 := limL_mono _ (by omega) (Nat.le_refl _) hc.lim
  have htot := hc.tot
  -- self.own_pieces = tuple(pieces)
  cases hu with
  | @tup a xs _ hq hall =>
    refine ⟨_, rfl, a, xs, rfl, .inr ⟨seqT e0 hq, _, rfl, x, T.C, dx, [], rfl, hx, T.cl, T.nP, (by show 0 < 1000; decide), ?_⟩⟩
    have ue : ∀ {H' : Hp} {o : HO}, Same H0 H' → Same H0 (upd H' x o) := fun {H' o} e b o' h => by
      rw [upd_ne (ne_of_none h hx0)]
      exact e b o' h
    have hp : ∀ {H' : Hp}, Same H0 H' → Dp K H' (.ref a) (pt ps) := fun {H'} e => .tup (seqT e hq) (Dp.monos e _ _ hall)
    -- self.own_length = total_length(self.own_pieces)
    refine ⟨_, rfl, x, T.C, dx, _, .ref a, rfl, upd_same, T.cl, T.nP, (by simp [putF, List.lookup]), [pt ps], .int (total ps), .cons (hp (ue e0)) .nil, ⟨ps, rfl, hc.ok, ⟨6, rfl, hlim⟩, by omega, rfl⟩, fun v H1 e1 p1 => ?_⟩
    cases p1
    have hx1 : H1 x = _ := e1 _ _ upd_same
    have e01 := (ue e0).trans e1
    refine ⟨_, rfl, x, T.C, dx, _, rfl, hx1, T.cl, T.nL, (by show 1 < 1000; decide), ?_⟩
    have ef : putF "own_length" (.int (total ps)) (putF "own_pieces" (.ref a) []) = flds (.ref a) (total ps) := by simp [putF, flds, fl_ne3]
    rw [ef]
    have e2 := ue (o := .ins T.C dx (flds (.ref a) (total ps))) e01
    -- the limits
    refine ⟨_, rfl, x, T.C, dx, _, _, rfl, upd_same, T.cl, T.nL, lk_l _ _, _, _, rfl, rfl, _, rfl, ?_⟩
    rw [decide_eq_false (by have : (20000 : Int) < 10 ^ 40 := by decide
                            omega)]
    refine iteF ?_
    refine ⟨_, rfl, x, T.C, dx, _, .ref a, rfl, upd_same, T.cl, T.nP, lk_p _ _, [pt ps], .int (pcounts ps), .cons (hp e2) .nil, ⟨ps, rfl, hc.ok, ⟨6, rfl, hlim⟩, by omega, rfl⟩, fun v H3 e3 p3 => ?_⟩
    cases p3
    refine ⟨_, _, rfl, rfl, _, rfl, ?_⟩
    rw [decide_eq_false (by have := hc.cnt; omega)]
    refine iteF ?_
    exact q H3 (e2.trans e3) (e3 _ _ upd_same)
end
end Cl

/-! part W8 -/
namespace Cl
open PySem L2
section
variable {P : Program} {w : World} {K : Frg} {mg : Str → Option Value} {base : Heap} (T : Tx K mg)
theorem ok_c_length : FnOk P w K mg base CX0 1 T.c_length.f T.c_length.fd ["self"] (getSp T.C "own_length") := by
  refine T.c_length.F.ok sc_c_length (fun vs H Q E h => ?_) (fun cdv A outer s H vs Q E hr h => ?_)
  · obtain ⟨a, dx, fs, v, rfl, _⟩ := h
    rfl
  obtain ⟨a, dx, fs, v, rfl, ha, hl, q⟩ := h
  exact ⟨_, (pss_one (ps_ret (pe_fld (pv 0) rfl))), _, rfl, a, T.C, dx, fs, v, rfl, ha, T.cl, T.nL, hl, q⟩
/-- pieces(): a list that was not there -/
def spPcs (K : Frg) (C : Addr) : Sp := fun vs H Q _ => ∃ ps, AllP (m := .non) [dClip K C ps] vs H ∧ ∀ l ys H', Same H H' → H l = none → H' l = some (.lst ys) → DpAll K H' ys (pds ps) → Q (.ref l) H'
theorem ok_c_pieces : FnOk P w K mg base CX0 1 T.c_pieces.f T.c_pieces.fd ["self"] (spPcs K T.C) := by
  refine T.c_pieces.F.ok sc_c_pieces (fun vs H Q E h => ?_) (fun cdv A outer s H vs Q E hr h => ?_)
  · obtain ⟨ps, ha, _⟩ := h
    exact ha.length.symm
  obtain ⟨ps, ha, q⟩ := h
  refine ⟨_, (pss_one (ps_ret (pe_callTy call_list_of (by rfl) T.n_list (by decide +kernel) (pa_cons (pe_fld (pv 0) rfl) pa_nil)))), ?_⟩
  refine en_list (ds := pds ps) (ev_fldP T.cl T.nP (ev_var rfl)) _ _ _ (dp_start (N := ["self"]) ha) fun a H1 vs l hn hall => ?_
  have e1 : Same H H1 := by have := l.ex; rw [del_non, del_non] at this; exact this
  refine q a vs _ (e1.trans (same_new hn)) ?_ upd_same (Dp.monos (same_new hn) _ _ (by rw [del_non] at hall; exact hall))
  cases e : H a with
  | none => rfl
  | some o => rw [e1 _ _ e] at hn; cases hn
abbrev A3 (K : Frg) (C : Addr) (x : List Piece × Int × Int) : List (De .non) := [dClip K C x.1, Dd K (.int x.2.1), Dd K (.int x.2.2)]
def spReq (K : Frg) (C : Addr) : Sp := spQ (A3 K C) (fun x => 0 ≤ x.2.1 ∧ x.2.1 ≤ x.2.2 ∧ x.2.2 ≤ total x.1) (fun _ => Dd K .none)
theorem ok_c_require_stretch : FnOk P w K mg base CX0 3 T.c_require_stretch.f T.c_require_stretch.fd ["self", "start", "end"] (spReq K T.C) := by
  have G_is_between := ok_is_between (P := P) (w := w) (base := base) T
  refine ok_Q T.c_require_stretch.F sc_c_require_stretch (fun _ => rfl) (fun cdv A outer s H E hr => ⟨_, (pss_cons (ps_for PassesOwn.never rfl (pi_tup (pe_tup (pa_cons (pv 1) (pa_cons (pv 2) pa_nil)))) (pg_name (i := 3) sc_c_require_stretch.nd rfl (Or.inl rfl)) (pss_one (ps_if (pt_not (pt_val (pe_call G_is_between (hr.mono (by omega)) rfl T.is_between.m T.is_between.F.kp T.is_between.b .nil pass0 (pa_cons (pv 3) (pa_cons pe_int (pa_cons (pe_fld (pv 0) rfl) pa_nil)))))) (pss_one ps_never) pss_nil)))
      (pss_one (ps_if (pt_cmpR op_lt (pv 2) (pv 1) (nomark _)) (pss_one ps_never) pss_nil))), ?_⟩)
  rintro ⟨ps, a, b⟩ ⟨h0, h1, h2⟩ D H0 rr
  simp only at h0 h1 h2
  refine s_seq (s_forT (α := Unit) (fun _ _ => True) (fun _ => [some (dClip K T.C ps), some (Dd K (.int a)), some (Dd K (.int b)), none]) (fun _ => []) () (ev_tupD (ds := [.int a, .int b]) (ead_cons (ev_var rfl) (ead_cons (ev_var rfl) ead_nil))) trivial rfl (sub_s (sub_s (sub_s (sub_n sub_nil)))) ?_ ?_)
  · rintro i x d H1 hd _ _
    have : ∃ v : Int, d = .int v ∧ 0 ≤ v ∧ v ≤ total ps := by
      match i, hd with
      | 0, hd => exact ⟨a, by simpa using hd.symm, h0, by omega⟩
      | 1, hd => exact ⟨b, by simpa using hd.symm, by omega, h2⟩
      | i + 2, hd => simp at hd
    obtain ⟨v, rfl, h3, h4⟩ := this
    refine s_ifF ((et_not (et_B (ev_call (ds := [.int v, .int 0, .int (total ps)]) (d := .bool _) (ead_cons (ev_var rfl) (ead_cons ev_int (ead_cons (ev_fldL T.cl T.nL (ev_var rfl)) ead_nil))) ⟨v, 0, total ps, rfl, rfl⟩ rfl))).to ?_) (s_end () trivial rfl (sub_s (sub_s (sub_s (sub_n sub_nil)))))
    rw [decide_eq_true h3, decide_eq_true h4]
    rfl
  · rintro x _
    exact s_nx (s_ifF ((et_of (ev_lt (ev_var rfl) (ev_var rfl))).to (decide_eq_false (by omega))) (s_endQ rr.2))
def spCut (K : Frg) (C : Addr) : Sp := spQ (A3 K C) (fun x => 0 ≤ x.2.1 ∧ x.2.1 ≤ x.2.2 ∧ x.2.2 ≤ total x.1 ∧ Cok x.1 ∧ Cok (cutL x.1 x.2.1 x.2.2)) (fun x => dClip K C (cutL x.1 x.2.1 x.2.2))
theorem Cok.l50 {ps : List Piece} (h : Cok ps) : limL ps 50 6 := limL_mono _ (by omega) (Nat.le_refl _) h.lim
theorem Cok.l520 {ps : List Piece} (h : Cok ps) : limL ps 50 20 := limL_mono _ (by omega) (by omega) h.lim
theorem Cok.l49 {ps : List Piece} (h : Cok ps) : limL ps 49 6 := limL_mono _ (by omega) (Nat.le_refl _) h.lim
theorem Cok.len {ps : List Piece} (h : Cok ps) : (ps.length : Int) ≤ 20000 := by
  have h1 := total_ge ps h.ok
  have h2 := h.tot
  omega
theorem up_nil {m : Mo} : UpA (m := m) [] [] := .nil
theorem up3 {m : Mo} {C : Addr} {ps : List Piece} {a b : PyData} : UpA (m := m) [dClip K C ps, Dd K a, Dd K b] [dClip K C ps, Dd K a, Dd K b] := .cons up_clip (.cons up_d (.cons up_d .nil))
theorem n_own : (("require_stretch" : Str) == "own_pieces") = false ∧ (("require_stretch" : Str) == "own_length") = false := by decide +kernel
theorem ok_c_cut : FnOk P w K mg base CX0 25 T.c_cut.f T.c_cut.fd ["self", "start", "end"] (spCut K T.C) := by
  have G_c_require_stretch := ok_c_require_stretch (P := P) (w := w) (base := base) T
  have G_c_init := ok_c_init (P := P) (w := w) (base := base) T
  have G_cut_pieces := ok_cuts (P := P) (w := w) (base := base) T 7
  refine ok_Q T.c_cut.F sc_c_cut (fun _ => rfl) (fun cdv A outer s H E hr => ⟨_, (pss_cons (ps_expr (pe_meth (pv 0) T.cl T.h_require_stretch G_c_require_stretch (hr.mono (by omega)) T.c_require_stretch.b .nil pass0 (pa_cons (pv 1) (pa_cons (pv 2) pa_nil))))
      (pss_one (ps_ret (pe_make T.mkC G_c_init (hr.mono (by omega)) (by rfl) T.mgC T.c_init.b .nil pass0 (pa_cons (pe_call G_cut_pieces (hr.mono (by omega)) rfl T.cut_pieces.m T.cut_pieces.F.kp T.cut_pieces.b .nil pass0 (pa_cons (pe_fld (pv 0) rfl) (pa_cons (pv 1) (pa_cons (pv 2) pa_nil)))) pa_nil))))), ?_⟩)
  rintro ⟨ps, a, b⟩ ⟨h0, h1, h2, h3, h4⟩ D H0 rr
  simp only at h0 h1 h2 h3 h4
  refine q_drop (P := Dd K .none) (ev_methQ (Ps := [Dd K (.int a), Dd K (.int b)]) (ps, a, b) (ev_var rfl) n_own (ea_cons (ev_var rfl) (ea_cons (ev_var rfl) ea_nil)) ⟨h0, h1, h2⟩ up3 dn_same) ?_
  have ht := h3.tot
  exact s_retQ (ev_make (ea_cons (ev_call (ds := [pt ps, .int a, .int b]) (ead_cons (ev_fldP T.cl T.nP (ev_var rfl)) (ead_cons (ev_var rfl) (ead_cons (ev_var rfl) ead_nil))) ⟨ps, a, b, rfl, h3.ok, ⟨6, rfl, h3.l50⟩, by omega, by omega, rfl⟩ (lf_pt _)) ea_nil) h4) rr.1
def spGn (K : Frg) (C : Addr) : Sp := spQ (A3 K C) (fun x => -1000 ≤ x.2.1 ∧ x.2.1 ≤ 1000 ∧ 1 ≤ x.2.2 ∧ x.2.2 ≤ 1000 ∧ Cok x.1 ∧ Cok (gainL x.2 x.1)) (fun x => dClip K C (gainL x.2 x.1))
theorem ok_c_gained : FnOk P w K mg base CX0 17 T.c_gained.f T.c_gained.fd ["self", "top", "bottom"] (spGn K T.C) := by
  have G_is_between := ok_is_between (P := P) (w := w) (base := base) T
  have G_c_init := ok_c_init (P := P) (w := w) (base := base) T
  have G_gained_pieces := ok_gained_pieces (P := P) (w := w) (base := base) T 7
  refine ok_Q T.c_gained.F sc_c_gained (fun _ => rfl) (fun cdv A outer s H E hr => ⟨_, (pss_cons (ps_if (pt_not (pt_val (pe_call G_is_between (hr.mono (by omega)) rfl T.is_between.m T.is_between.F.kp T.is_between.b .nil pass0 (pa_cons (pv 1) (pa_cons (pe_un un_neg (pe_glob (v := .int 1000) (by rfl) T.m_MAX_GAIN ⟨_, rfl⟩)) (pa_cons (pe_glob (v := .int 1000) (by rfl) T.m_MAX_GAIN ⟨_, rfl⟩) pa_nil)))))) (pss_one ps_never) pss_nil)
      (pss_cons (ps_if (pt_not (pt_val (pe_call G_is_between (hr.mono (by omega)) rfl T.is_between.m T.is_between.F.kp T.is_between.b .nil pass0 (pa_cons (pv 2) (pa_cons pe_int (pa_cons (pe_glob (v := .int 1000) (by rfl) T.m_MAX_GAIN ⟨_, rfl⟩) pa_nil)))))) (pss_one ps_never) pss_nil)
      (pss_one (ps_ret (pe_make T.mkC G_c_init (hr.mono (by omega)) (by rfl) T.mgC T.c_init.b .nil pass0 (pa_cons (pe_call G_gained_pieces (hr.mono (by omega)) rfl T.gained_pieces.m T.gained_pieces.F.kp T.gained_pieces.b .nil pass0 (pa_cons (pe_fld (pv 0) rfl) (pa_cons (pe_tup (pa_cons (pv 1) (pa_cons (pv 2) pa_nil))) pa_nil))) pa_nil)))))), ?_⟩)
  rintro ⟨ps, a, b⟩ ⟨h0, h1, h2, h3, h4, h5⟩ D H0 rr
  simp only at h0 h1 h2 h3 h4 h5
  have ht := h4.tot
  refine q_ifF ((et_not (et_B (ev_call (ds := [.int a, .int (-1000), .int 1000]) (d := .bool _) (ead_cons (ev_var rfl) (ead_cons (ev_neg ev_int) (ead_cons ev_int ead_nil))) ⟨a, -1000, 1000, rfl, rfl⟩ rfl))).to (by rw [decide_eq_true h0, decide_eq_true h1]; rfl)) ?_
  refine q_ifF ((et_not (et_B (ev_call (ds := [.int b, .int 1, .int 1000]) (d := .bool _) (ead_cons (ev_var rfl) (ead_cons ev_int (ead_cons ev_int ead_nil))) ⟨b, 1, 1000, rfl, rfl⟩ rfl))).to (by rw [decide_eq_true h2, decide_eq_true h3]; rfl)) ?_
  exact s_retQ (ev_make (ea_cons (ev_call (ds := [pt ps, gd1 (a, b)]) (ead_cons (ev_fldP T.cl T.nP (ev_var rfl)) (ead_cons (ev_tupD (ds := [.int a, .int b]) (ead_cons (ev_var rfl) (ead_cons (ev_var rfl) ead_nil))) ead_nil)) ⟨ps, (a, b), rfl, h4.ok, ⟨6, rfl, h4.l49⟩, by omega, rfl⟩ (lf_pt _)) ea_nil) h5) rr.1
abbrev A2 (K : Frg) (C : Addr) (x : List Piece × List Piece) : List (De .non) := [dClip K C x.1, dClip K C x.2]
def spAdd (K : Frg) (C : Addr) : Sp := spQ (A2 K C) (fun x => Cok x.1 ∧ Cok x.2 ∧ Cok (both x.1 x.2)) (fun x => dClip K C (both x.1 x.2))
theorem ok_c_add : FnOk P w K mg base CX0 17 T.c_add.f T.c_add.fd ["self", "other"] (spAdd K T.C) := by
  have G_c_init := ok_c_init (P := P) (w := w) (base := base) T
  have G_both_pieces := ok_both_pieces (P := P) (w := w) (base := base) T
  refine ok_Q T.c_add.F sc_c_add (fun _ => rfl) (fun cdv A outer s H E hr => ⟨_, (pss_one (ps_ret (pe_make T.mkC G_c_init (hr.mono (by omega)) (by rfl) T.mgC T.c_init.b .nil pass0 (pa_cons (pe_call G_both_pieces (hr.mono (by omega)) rfl T.both_pieces.m T.both_pieces.F.kp T.both_pieces.b .nil pass0 (pa_cons (pe_fld (pv 0) rfl) (pa_cons (pe_fld (pv 1) rfl) pa_nil))) pa_nil)))), ?_⟩)
  rintro ⟨xs, ys⟩ ⟨h1, h2, h3⟩ D H0 rr
  simp only at h1 h2 h3
  have l1 := h1.len
  have l2 := h2.len
  exact s_retQ (ev_make (ea_cons (ev_call (ds := [pt xs, pt ys]) (ead_cons (ev_fldP T.cl T.nP (ev_var rfl)) (ead_cons (ev_fldP T.cl T.nP (ev_var rfl)) ead_nil)) ⟨xs, ys, rfl, h1.l520, h2.l520, by omega, by omega, rfl⟩ (lf_pt _)) ea_nil) h3) rr.1
abbrev A2i (K : Frg) (C : Addr) (x : List Piece × Int) : List (De .non) := [dClip K C x.1, Dd K (.int x.2)]
def spMul (K : Frg) (C : Addr) : Sp := spQ (A2i K C) (fun x => 0 ≤ x.2 ∧ x.2 ≤ 1000000 ∧ Cok x.1 ∧ Cok (repd x.1 x.2)) (fun x => dClip K C (repd x.1 x.2))
theorem ok_c_mul : FnOk P w K mg base CX0 17 T.c_mul.f T.c_mul.fd ["self", "other"] (spMul K T.C) := by
  have G_is_between := ok_is_between (P := P) (w := w) (base := base) T
  have G_c_init := ok_c_init (P := P) (w := w) (base := base) T
  have G_repeated_pieces := ok_repeated_pieces (P := P) (w := w) (base := base) T
  refine ok_Q T.c_mul.F sc_c_mul (fun _ => rfl) (fun cdv A outer s H E hr => ⟨_, (pss_cons (ps_if (pt_not (pt_val (pe_call G_is_between (hr.mono (by omega)) rfl T.is_between.m T.is_between.F.kp T.is_between.b .nil pass0 (pa_cons (pv 1) (pa_cons pe_int (pa_cons (pe_glob (v := .int (10 ^ 30)) (by rfl) T.m_MAX_COUNT ⟨_, rfl⟩) pa_nil)))))) (pss_one ps_never) pss_nil)
      (pss_one (ps_ret (pe_make T.mkC G_c_init (hr.mono (by omega)) (by rfl) T.mgC T.c_init.b .nil pass0 (pa_cons (pe_call G_repeated_pieces (hr.mono (by omega)) rfl T.repeated_pieces.m T.repeated_pieces.F.kp T.repeated_pieces.b .nil pass0 (pa_cons (pe_fld (pv 0) rfl) (pa_cons (pv 1) pa_nil))) pa_nil))))), ?_⟩)
  rintro ⟨xs, k⟩ ⟨h0, h1, h2, h3⟩ D H0 rr
  simp only at h0 h1 h2 h3
  have ht := h2.tot
  have hk : k ≤ 10 ^ 30 := Int.le_trans h1 (by decide)
  refine q_ifF ((et_not (et_B (ev_call (ds := [.int k, .int 0, .int (10 ^ 30)]) (d := .bool _) (ead_cons (ev_var rfl) (ead_cons ev_int (ead_cons ev_int ead_nil))) ⟨k, 0, 10 ^ 30, rfl, rfl⟩ rfl))).to (by rw [decide_eq_true h0, decide_eq_true hk]; rfl)) ?_
  exact s_retQ (ev_make (ea_cons (ev_call (ds := [pt xs, .int k]) (ead_cons (ev_fldP T.cl T.nP (ev_var rfl)) (ead_cons (ev_var rfl) ead_nil)) ⟨xs, k, rfl, h2.l520, h2.ok, by omega, rfl⟩ (lf_pt _)) ea_nil) h3) rr.1
theorem ev_isC {m : Mo} {δ : Dl m} {c : List PyData} {ta tb : TE} {ps : List Piece} (h : Ev K ta δ c (dClip K T.C ps)) (hb : Ev K tb δ c (dV (.ref T.C))) : Ev K (tCB (rIsi K) (tCons ta (tCons tb tNil))) δ c (Dd K (.bool true)) :=
  ev_cb (ea_cons h (ea_cons hb ea_nil)) fun vs H Q w pp q => by
    cases pp with
    | cons p t =>
      cases t with
      | cons p2 t =>
        cases t
        cases p2
        obtain ⟨x, dx, u, rfl, hx, _⟩ := p
        exact ⟨_, _, _, _, true, rfl, .own T.C, .base (.ins (del_sub _ _ hx) T.cl T.hcl T.q_cls T.t_cls T.m_obj), T.kit, q _ H (Le.refl H) (.bl true)⟩
def spEq (K : Frg) (C : Addr) : Sp := spQ (A2 K C) (fun x => Cok x.1 ∧ Cok x.2) (fun x => Dd K (.bool (PyData.eqv (pt x.1) (pt x.2))))
theorem ok_c_eq : FnOk P w K mg base CX0 1 T.c_eq.f T.c_eq.fd ["self", "other"] (spEq K T.C) := by
  refine ok_Q T.c_eq.F sc_c_eq (fun _ => rfl) (fun cdv A outer s H E hr => ⟨_, (pss_cons (ps_if (pt_not (pt_val (pe_callB call_isi (by rfl) T.n_isinstance (by decide +kernel) (pa_cons (pv 1) (pa_cons (pe_glob (v := .ref T.C) (by rfl) T.mgC rfl) pa_nil))))) (pss_one (ps_ret pe_bl)) pss_nil)
      (pss_one (ps_ret (pe_cmpR (op_eqD hr.units) (pe_fld (pv 0) rfl) (pe_fld (pv 1) rfl) (nomark _))))), ?_⟩)
  rintro ⟨xs, ys⟩ ⟨h1, h2⟩ D H0 rr
  simp only at h1 h2
  refine q_ifF ((et_not (et_B (ev_isC T (ps := ys) (ev_var rfl) ev_c))).to rfl) ?_
  exact s_retQ (ev_eqD (ev_fldP T.cl T.nP (ev_var rfl)) (ev_fldP T.cl T.nP (ev_var rfl)) (sh_pt h1.lim (by omega)) (sh_pt h2.lim (by omega))) rr.1
abbrev A3n (K : Frg) (x : Bool × Int × Int) : List (De .non) := [Dd K (.str (nmS x.1)), Dd K (.int x.2.1), Dd K (.int x.2.2)]
def spPart (K : Frg) (C : Addr) : Sp := spQ (A3n K) (fun x => 0 ≤ x.2.1 ∧ x.2.1 ≤ x.2.2 ∧ Cok (pcs (.part x.1 x.2.1 x.2.2))) (fun x => dClip K C (pcs (.part x.1 x.2.1 x.2.2)))
theorem ok_c_part : FnOk P w K mg base CX0 17 T.c_part.f T.c_part.fd ["name", "start", "end"] (spPart K T.C) := by
  have G_is_name := ok_is_name (P := P) (w := w) (base := base) T
  have G_is_integer := ok_is_integer (P := P) (w := w) (base := base) T
  have G_c_init := ok_c_init (P := P) (w := w) (base := base) T
  refine ok_Q T.c_part.F sc_c_part (fun _ => rfl) (fun cdv A outer s H E hr => ⟨_, (pss_cons (ps_if (pt_not (pt_val (pe_call G_is_name (hr.mono (by omega)) rfl T.is_name.m T.is_name.F.kp T.is_name.b .nil pass0 (pa_cons (pv 0) pa_nil)))) (pss_one ps_never) pss_nil)
      (pss_cons (ps_for PassesOwn.never rfl (pi_tup (pe_tup (pa_cons (pv 1) (pa_cons (pv 2) pa_nil)))) (pg_name (i := 3) sc_c_part.nd rfl (Or.inl rfl)) (pss_one (ps_if (PW.pt (pw_or (pt_not (pt_val (pe_call G_is_integer (hr.mono (by omega)) rfl T.is_integer.m T.is_integer.F.kp T.is_integer.b .nil pass0 (pa_cons (pv 3) pa_nil)))) (pw_or1 (pt_cmpR op_lt (pv 3) pe_int (nomark _))))) (pss_one ps_never) pss_nil)))
      (pss_cons (ps_if (pt_cmpR op_lt (pv 2) (pv 1) (nomark _)) (pss_one ps_never) pss_nil)
      (pss_one (ps_ret (pe_make T.mkC G_c_init (hr.mono (by omega)) (by rfl) T.mgC T.c_init.b .nil pass0 (pa_cons (pe_ifExp (pt_cmpR op_lt (pv 1) (pv 2) (nomark _)) (pe_tup (pa_cons (pe_tup (pa_cons pe_str (pa_cons (pv 0) (pa_cons (pv 1) (pa_cons (pv 2) (pa_cons (pe_tup pa_nil) pa_nil)))))) pa_nil)) (pe_tup pa_nil)) pa_nil))))))), ?_⟩)
  rintro ⟨n, a, b⟩ ⟨h0, h1, h2⟩ D H0 rr
  simp only at h0 h1 h2
  refine q_ifF ((et_not (et_B (ev_call (ds := [.str (nmS n)]) (d := .bool true) (ead_cons (ev_var rfl) ead_nil) ⟨n, rfl, rfl⟩ rfl))).to rfl) ?_
  refine s_seq (s_forT (α := Unit) (fun _ _ => True) (fun _ => [some (Dd K (.str (nmS n))), some (Dd K (.int a)), some (Dd K (.int b)), none]) (fun _ => []) () (ev_tupD (ds := [.int a, .int b]) (ead_cons (ev_var rfl) (ead_cons (ev_var rfl) ead_nil))) trivial rfl (sub_s (sub_s (sub_s (sub_n sub_nil)))) ?_ ?_)
  · rintro i x d H1 hd _ _
    have : ∃ v : Int, d = .int v ∧ 0 ≤ v := by
      match i, hd with
      | 0, hd => exact ⟨a, by simpa using hd.symm, h0⟩
      | 1, hd => exact ⟨b, by simpa using hd.symm, by omega⟩
      | i + 2, hd => simp at hd
    obtain ⟨v, rfl, h3⟩ := this
    refine s_ifF ((et_or (a := false) (b := false) ((et_not (et_B (ev_call (ds := [.int v]) (d := .bool true) (ead_cons (ev_var rfl) ead_nil) ⟨v, rfl, rfl⟩ rfl))).to rfl) fun _ => (et_of (ev_lt (ev_var rfl) ev_int)).to (decide_eq_false (by omega))).to rfl) (s_end () trivial rfl (sub_s (sub_s (sub_s (sub_n sub_nil)))))
  · rintro x _
    refine s_nx (q_ifF ((et_of (ev_lt (ev_var rfl) (ev_var rfl))).to (decide_eq_false (by omega))) ?_)
    refine s_retQ (ev_make (ea_cons ?_ ea_nil) h2) rr.1
    refine ev_if (et_of (ev_lt (ev_var rfl) (ev_var rfl))) (fun h => ?_) (fun h => ?_)
    · have e : pcs (.part n a b) = [.part n a b []] := by simp only [pcs]; rw [if_pos (of_decide_eq_true h)]
      rw [e]
      exact ev_tupD (ead_cons (ev_tupD (ead_cons ev_str (ead_cons (ev_var rfl) (ead_cons (ev_var rfl) (ead_cons (ev_var rfl) (ead_cons (ev_tupD ead_nil) ead_nil)))))) ead_nil)
    · have e : pcs (.part n a b) = [] := by simp only [pcs]; rw [if_neg (of_decide_eq_false h)]
      rw [e]
      exact ev_tupD ead_nil
def spSil (K : Frg) (C : Addr) : Sp := spQ (fun n : Int => [Dd K (.int n)]) (fun n => 0 ≤ n ∧ n ≤ 1000000 ∧ Cok (pcs (.sil n))) (fun n => dClip K C (pcs (.sil n)))
theorem ok_c_silence : FnOk P w K mg base CX0 17 T.c_silence.f T.c_silence.fd ["count"] (spSil K T.C) := by
  have G_is_between := ok_is_between (P := P) (w := w) (base := base) T
  have G_c_init := ok_c_init (P := P) (w := w) (base := base) T
  refine ok_Q T.c_silence.F sc_c_silence (fun _ => rfl) (fun cdv A outer s H E hr => ⟨_, (pss_cons (ps_if (pt_not (pt_val (pe_call G_is_between (hr.mono (by omega)) rfl T.is_between.m T.is_between.F.kp T.is_between.b .nil pass0 (pa_cons (pv 0) (pa_cons pe_int (pa_cons (pe_glob (v := .int (10 ^ 30)) (by rfl) T.m_MAX_COUNT ⟨_, rfl⟩) pa_nil)))))) (pss_one ps_never) pss_nil)
      (pss_one (ps_ret (pe_make T.mkC G_c_init (hr.mono (by omega)) (by rfl) T.mgC T.c_init.b .nil pass0 (pa_cons (pe_ifExp (pt_cmpR op_gt (pv 0) pe_int (nomark _)) (pe_tup (pa_cons (pe_tup (pa_cons pe_str (pa_cons (pv 0) pa_nil))) pa_nil)) (pe_tup pa_nil)) pa_nil))))), ?_⟩)
  rintro n ⟨h0, h1, h2⟩ D H0 rr
  have hk : n ≤ 10 ^ 30 := Int.le_trans h1 (by decide)
  refine q_ifF ((et_not (et_B (ev_call (ds := [.int n, .int 0, .int (10 ^ 30)]) (d := .bool _) (ead_cons (ev_var rfl) (ead_cons ev_int (ead_cons ev_int ead_nil))) ⟨n, 0, 10 ^ 30, rfl, rfl⟩ rfl))).to (by rw [decide_eq_true h0, decide_eq_true hk]; rfl)) ?_
  refine s_retQ (ev_make (ea_cons ?_ ea_nil) h2) rr.1
  refine ev_if (et_of (ev_gt (ev_var rfl) ev_int)) (fun h => ?_) (fun h => ?_)
  · have e : pcs (.sil n) = [.sil n] := by simp only [pcs]; rw [if_pos (of_decide_eq_true h)]
    rw [e]
    exact ev_tupD (ead_cons (ev_tupD (ead_cons ev_str (ead_cons (ev_var rfl) ead_nil))) ead_nil)
  · have e : pcs (.sil n) = [] := by simp only [pcs]; rw [if_neg (of_decide_eq_false h)]
    rw [e]
    exact ev_tupD ead_nil
def spSmp (K : Frg) (C : Addr) : Sp := spQ (fun xs : List Int => [Dd K (.list (ids xs))]) (fun xs => xs.length ≤ 1000 ∧ Cok (pcs (.smp xs))) (fun xs => dClip K C (pcs (.smp xs)))
theorem ok_c_samples : FnOk P w K mg base CX0 17 T.c_samples.f T.c_samples.fd ["sound"] (spSmp K T.C) := by
  have G_require_sound := ok_require_sound (P := P) (w := w) (base := base) T
  have G_c_init := ok_c_init (P := P) (w := w) (base := base) T
  refine ok_Q T.c_samples.F sc_c_samples (fun _ => rfl) (fun cdv A outer s H E hr => ⟨_, (pss_cons (ps_expr (pe_call G_require_sound (hr.mono (by omega)) rfl T.require_sound.m T.require_sound.F.kp T.require_sound.b .nil pass0 (pa_cons (pv 0) pa_nil)))
      (pss_one (ps_ret (pe_make T.mkC G_c_init (hr.mono (by omega)) (by rfl) T.mgC T.c_init.b .nil pass0 (pa_cons (pe_ifExp (pt_cmpR op_gt (pe_callB call_len_seq (by rfl) T.n_len (by decide +kernel) (pa_cons (pv 0) pa_nil)) pe_int (nomark _)) (pe_tup (pa_cons (pe_tup (pa_cons pe_str (pa_cons (pe_callTy call_tuple_of (by rfl) T.n_tuple (by decide +kernel) (pa_cons (pv 0) pa_nil)) (pa_cons (pe_tup pa_nil) pa_nil)))) pa_nil)) (pe_tup pa_nil)) pa_nil))))), ?_⟩)
  rintro xs ⟨h0, h2⟩ D H0 rr
  refine q_drop (P := Dd K .none) (ev_call (ds := [.list (ids xs)]) (ead_cons (ev_var rfl) ead_nil) ⟨xs, rfl, rfl⟩ rfl) ?_
  refine s_retQ (ev_make (ea_cons ?_ ea_nil) h2) rr.1
  refine ev_if (et_of (ev_gt (ev_lenL (ev_var rfl)) ev_int)) (fun h => ?_) (fun h => ?_)
  · have e : pcs (.smp xs) = [.smp xs []] := by
      simp only [pcs]
      rw [if_neg]
      rintro rfl
      exact absurd (of_decide_eq_true h) (by simp [ids])
    rw [e]
    exact ev_tupD (ead_cons (ev_tupD (ead_cons ev_str (ead_cons (ev_tupL (ev_var rfl)) (ead_cons (ev_tupD ead_nil) ead_nil)))) ead_nil)
  · have e : pcs (.smp xs) = [] := by
      simp only [pcs]
      rw [if_pos]
      have := of_decide_eq_false h
      cases xs with
      | nil => rfl
      | cons x xs => exact absurd (by simp [ids]) this
    rw [e]
    exact ev_tupD ead_nil
end
end Cl

/-! part W9 -/
namespace Cl
open PySem L2
theorem dun_add : PySem.dunder Operator.Add.info.2 = ("__add__" : Str) := by decide +kernel
theorem dun_mul : PySem.dunder Operator.Mult.info.2 = ("__mul__" : Str) := by decide +kernel
theorem dun_rmul : dunderR Operator.Mult.info.2 = ("__rmul__" : Str) := by decide +kernel
theorem dn_add {K : Frg} {u : Value} {x : Option (Option Value)} (h : PySem.W.findIn K u "__add__" = x) : PySem.W.findIn K u (PySem.dunder Operator.Add.info.2) = x := dun_add ▸ h
theorem dn_mul {K : Frg} {u : Value} {x : Option (Option Value)} (h : PySem.W.findIn K u "__mul__" = x) : PySem.W.findIn K u (PySem.dunder Operator.Mult.info.2) = x := dun_mul ▸ h
theorem dn_rmul {K : Frg} {u : Value} {x : Option (Option Value)} (h : PySem.W.findIn K u "__rmul__" = x) : PySem.W.findIn K u (dunderR Operator.Mult.info.2) = x := dun_rmul ▸ h
theorem T3_le : ∀ d : Nat, d ≤ 6 → T3 d ≤ 20000 := by decide
theorem Gd.cok {d : Nat} {ps : List Piece} (g : Gd d ps) (hd : d ≤ 6) : Cok ps where
  ok := g.ok
  nrm := g.nrm
  lim := limL_mono _ (by omega) hd g.lim
  tot := Int.le_trans g.tot (T3_le d hd)
  cnt := by
    have h1 := g.cnt 0
    have h2 := Bt_le d hd
    rw [pcounts_M]
    simp only [qn] at h1
    omega
section
variable {K : Frg} {m : Mo} {δ : Dl m} {c : List PyData} {H0 : Hp} {D : Ends} {tv : TS}
/-- a, b = a list of two -/
theorem q_unl {i j : Nat} {tl : TE} {d e : PyData} (h : Ev K tl δ c (Dd K (.list [d, e]))) (k : S K tv D ((δ.set i (some (Dd K d))).set j (some (Dd K e))) c H0) :
    S K (tSeq (tAsg tl (gUnl K 2 (gCons (gName i) (gCons (gName j) gNil)))) tv) D δ c H0 := fun σ H s l =>
  h σ H _ s fun v H1 l1 p => by
    cases p with
    | @lst a xs _ hq hall =>
      cases hall with
      | cons p1 t =>
        cases t with
        | cons p2 t =>
          cases t
          exact ⟨a, _, rfl, Same.seq del_sub hq, rfl, _, _, rfl, _, _, rfl, rfl, k _ H1 (((s.mono l1).set i p1).set j p2) (l.trans l1.ex)⟩
end
theorem sh_ids (xs : List Int) : SeqAt.shaped (.list (ids xs)) = true := shaped_of (by simp only [PyData.canLay0]; exact can_ids xs) (by
  have := dep_ids xs
  simp only [PyData.depth]
  omega)
section
variable {P : Program} {w : World} {K : Frg} {mg : Str → Option Value} {base : Heap} (T : Tx K mg)
def R_lp (r : Nat) (ds : List PyData) (d : PyData) : Prop := ∃ t : Tree, ds = [td t] ∧ (∃ q, r = q + 1 ∧ okT t q ∧ q ≤ 6) ∧ d = pt (pcs t)
theorem sum_sizes {r : Nat} {te : TE} {m : Mo} {δ : Dl m} {c : List PyData} {ps : List Piece} {j : Nat} (h : Cok ps) (hb : ∀ p, p ∈ ps → Ev K te ((δ.set j none).set j (some (Dd K (pd p)))) c (Dd K (.int (plen p)))) {tl : TE} (hl : Ev K tl δ c (Dd K (pt ps))) :
    Ev K (tCB (rSum K) (tCons (tLc (iTup K tl) (gName j) tYes te [j]) tNil)) δ c (Dd K (.int (total ps))) := by
  rw [← sum_total]
  refine ev_sum (ev_lcT hl ?_ (lf_ids _) ?_ fun i d e hd he => ?_)
  · rw [pds_length]
    have := h.len
    omega
  · rw [pds_length]
    simp [ids]
  · obtain ⟨p, hp, rfl⟩ := pds_get hd
    have e2 : e = .int (plen p) := by
      unfold ids at he
      rw [List.getElem?_map, List.getElem?_map, hp] at he
      exact (Option.some.inj he).symm
    subst e2
    exact hb p (List.mem_of_getElem? hp)
theorem ok_law_pieces : ∀ r : Nat, FnOk P w K mg base CX0 (r + 9) T.law_pieces.f T.law_pieces.fd ["_law_tree"] (spD K (R_lp r))
  | 0 => (fn_none fun ds d ⟨_, _, ⟨q, e, _⟩, _⟩ => by omega : FnOk P w K mg base CX0 0 T.law_pieces.f T.law_pieces.fd ["_law_tree"] (spD K (R_lp 0))).mono (by omega)
  | r + 1 => by
    have G_law_pieces := ok_law_pieces r
    have G_law_both := ok_law_both (P := P) (w := w) (base := base) T
    have G_law_copies := ok_law_copies (P := P) (w := w) (base := base) T
    have G_law_gained := ok_law_gained (P := P) (w := w) (base := base) T 7
    have G_law_stretch := ok_law_stretch (P := P) (w := w) (base := base) T 7
    have G_law_size := ok_law_size (P := P) (w := w) (base := base) T 7
    refine ok_D T.law_pieces.F sc_law_pieces (fun ds d ⟨_, e, _⟩ => by rw [e]; rfl) (fun cdv A outer s H E hr => ⟨_, (pss_cons (ps_if (pt_cmpR op_eq (pe_ix ix_tup (pv 0) pe_int (fun _ _ => rfl)) pe_str (nomark _)) (pss_one (ps_ret (pe_ifExp (pt_cmpR op_gt (pe_ix ix_tup (pv 0) pe_int (fun _ _ => rfl)) pe_int (nomark _)) (pe_tup (pa_cons (pv 0) pa_nil)) (pe_tup pa_nil)))) pss_nil)
      (pss_cons (ps_if (pt_cmpR op_eq (pe_ix ix_tup (pv 0) pe_int (fun _ _ => rfl)) pe_str (nomark _)) (pss_one (ps_ret (pe_ifExp (pt_cmpR (op_neD hr.units) (pe_ix ix_tup (pv 0) pe_int (fun _ _ => rfl)) (pe_lst pa_nil) (nomark _)) (pe_tup (pa_cons (pe_tup (pa_cons pe_str (pa_cons (pe_callTy call_tuple_of (by rfl) T.n_tuple (by decide +kernel) (pa_cons (pe_ix ix_tup (pv 0) pe_int (fun _ _ => rfl)) pa_nil)) (pa_cons (pe_tup pa_nil) pa_nil)))) pa_nil)) (pe_tup pa_nil)))) pss_nil)
      (pss_cons (ps_if (pt_cmpR op_eq (pe_ix ix_tup (pv 0) pe_int (fun _ _ => rfl)) pe_str (nomark _)) (pss_one (ps_ret (pe_ifExp (pt_cmpR op_lt (pe_ix ix_tup (pv 0) pe_int (fun _ _ => rfl)) (pe_ix ix_tup (pv 0) pe_int (fun _ _ => rfl)) (nomark _)) (pe_tup (pa_cons (pe_op op_catA (pv 0) (pe_tup (pa_cons (pe_tup pa_nil) pa_nil))) pa_nil)) (pe_tup pa_nil)))) pss_nil)
      (pss_cons (ps_set (i := 1) sc_law_pieces.nd rfl (Or.inl rfl) (pe_call G_law_pieces (hr.mono (by omega)) rfl T.law_pieces.m T.law_pieces.F.kp T.law_pieces.b .nil pass0 (pa_cons (pe_ix ix_tup (pv 0) pe_int (fun _ _ => rfl)) pa_nil)))
      (pss_cons (ps_if (pt_cmpR op_eq (pe_ix ix_tup (pv 0) pe_int (fun _ _ => rfl)) pe_str (nomark _)) (pss_one (ps_ret (pe_call G_law_both (hr.mono (by omega)) rfl T.law_both.m T.law_both.F.kp T.law_both.b .nil pass0 (pa_cons (pv 1) (pa_cons (pe_call G_law_pieces (hr.mono (by omega)) rfl T.law_pieces.m T.law_pieces.F.kp T.law_pieces.b .nil pass0 (pa_cons (pe_ix ix_tup (pv 0) pe_int (fun _ _ => rfl)) pa_nil)) pa_nil))))) pss_nil)
      (pss_cons (ps_if (pt_cmpR op_eq (pe_ix ix_tup (pv 0) pe_int (fun _ _ => rfl)) pe_str (nomark _)) (pss_one (ps_ret (pe_call G_law_copies (hr.mono (by omega)) rfl T.law_copies.m T.law_copies.F.kp T.law_copies.b .nil pass0 (pa_cons (pv 1) (pa_cons (pe_ix ix_tup (pv 0) pe_int (fun _ _ => rfl)) pa_nil))))) pss_nil)
      (pss_cons (ps_if (pt_cmpR op_eq (pe_ix ix_tup (pv 0) pe_int (fun _ _ => rfl)) pe_str (nomark _)) (pss_one (ps_ret (pe_call G_law_gained (hr.mono (by omega)) rfl T.law_gained.m T.law_gained.F.kp T.law_gained.b .nil pass0 (pa_cons (pv 1) (pa_cons (pe_tup (pa_cons (pe_ix ix_tup (pv 0) pe_int (fun _ _ => rfl)) (pa_cons (pe_ix ix_tup (pv 0) pe_int (fun _ _ => rfl)) pa_nil))) pa_nil))))) pss_nil)
      (pss_cons (ps_set (i := 2) sc_law_pieces.nd rfl (Or.inl rfl) (pe_callB (cr_sum rfl) (by rfl) T.n_sum (by decide +kernel) (pa_cons (pe_lc (own := [("_law_piece", 3)]) (g := gName 3) (tt := tYes) (by rfl) sc_law_pieces.nd (pi_tup (pv 1)) (blkOk_by (own := [("_law_piece", 3)]) (N := ["_law_tree", "_law_first", "_law_size_here", "_law_piece", "_law_start_here", "_law_end_here"]) (sc := defScope s_law_pieces) (by decide +kernel)) (fun _ _ _ _ _ => pg_name (i := 3) sc_law_pieces.nd rfl (Or.inl rfl)) (fun _ _ _ _ _ => pts_nil) (fun _ _ _ _ _ => (pe_call G_law_size (hr.mono (by omega)) rfl T.law_size.m T.law_size.F.kp T.law_size.b .nil pass0 (pa_cons (pv 3) pa_nil)))) pa_nil)))
      (pss_cons (ps_asg (pe_callB cr_sorted (by rfl) T.n_sorted (by decide +kernel) (pa_cons (pe_lst (pa_cons (pe_callB (call_min2 rfl) (by rfl) T.n_min (by decide +kernel) (pa_cons (pe_ix ix_tup (pv 0) pe_int (fun _ _ => rfl)) (pa_cons (pv 2) pa_nil))) (pa_cons (pe_callB (call_min2 rfl) (by rfl) T.n_min (by decide +kernel) (pa_cons (pe_ix ix_tup (pv 0) pe_int (fun _ _ => rfl)) (pa_cons (pv 2) pa_nil))) pa_nil))) pa_nil)) (pg_unl (by rfl) (pgs_cons (pg_name (i := 4) sc_law_pieces.nd rfl (Or.inl rfl)) (pgs_cons (pg_name (i := 5) sc_law_pieces.nd rfl (Or.inl rfl)) pgs_nil))))
      (pss_one (ps_ret (pe_call G_law_stretch (hr.mono (by omega)) rfl T.law_stretch.m T.law_stretch.F.kp T.law_stretch.b .nil pass0 (pa_cons (pv 1) (pa_cons (pv 4) (pa_cons (pv 5) pa_nil))))))))))))))), ?_⟩)
    rintro ds d ⟨t, rfl, ⟨q, hq, ht, hq6⟩, rfl⟩ D H0 rr
    have hqr : q = r := by omega
    subst hqr
    have sub : ∀ (a : Tree) (q' : Nat) {te : TE} {δ : Dl .non}, q = q' + 1 → okT a q' → Ev K te δ [] (Dd K (td a)) → ∀ {E : XK}, Ev K (tCall (spD K (R_lp q)) [] E (tCons te tNil)) δ [] (Dd K (pt (pcs a))) := fun a q' te δ e h hv E => ev_call (ead_cons hv ead_nil) ⟨a, rfl, ⟨q', e, h, by omega⟩, rfl⟩ (lf_pt _)
    have cok : ∀ (a : Tree) (q' : Nat), q = q' + 1 → okT a q' → Cok (pcs a) := fun a q' e h => (pcs_good a q' h).cok (by omega)
    cases t with
    | sil n =>
      refine q_ifT (et_word (ev_ix (ev_var rfl) ev_int rfl) ev_str (w_eq _)) (s_retD (ev_if (et_of (ev_gt (ev_ix (ev_var rfl) ev_int rfl) ev_int)) (fun h => ?_) (fun h => ?_)) rr.1)
      · have e : pcs (.sil n) = [.sil n] := by simp only [pcs]; rw [if_pos (of_decide_eq_true h)]
        rw [e]
        exact ev_tupD (ead_cons (ev_var rfl) ead_nil)
      · have e : pcs (.sil n) = [] := by simp only [pcs]; rw [if_neg (of_decide_eq_false h)]
        rw [e]
        exact ev_tupD ead_nil
    | smp xs =>
      refine q_ifF (et_word (ev_ix (ev_var rfl) ev_int rfl) ev_str w_ms) (q_ifT (et_word (ev_ix (ev_var rfl) ev_int rfl) ev_str (w_eq _)) (s_retD (ev_if (et_of (ev_neD (ev_ix (ev_var rfl) ev_int rfl) (ev_lstD ead_nil) (sh_ids xs) sh_nilL)) (fun h => ?_) (fun h => ?_)) rr.1))
      · have e : pcs (.smp xs) = [.smp xs []] := by
          simp only [pcs]
          rw [if_neg]
          intro h0
          rw [eqv_ids, decide_eq_true h0] at h
          cases h
        rw [e]
        exact ev_tupD (ead_cons (ev_tupD (ead_cons ev_str (ead_cons (ev_tupL (ev_ix (ev_var rfl) ev_int rfl)) (ead_cons (ev_tupD ead_nil) ead_nil)))) ead_nil)
      · have e : pcs (.smp xs) = [] := by
          simp only [pcs]
          rw [if_pos]
          rw [eqv_ids] at h
          exact of_decide_eq_true (by simpa using h)
        rw [e]
        exact ev_tupD ead_nil
    | part n a b =>
      refine q_ifF (et_word (ev_ix (ev_var rfl) ev_int rfl) ev_str w_ps) (q_ifF (et_word (ev_ix (ev_var rfl) ev_int rfl) ev_str (by decide +kernel)) (q_ifT (et_word (ev_ix (ev_var rfl) ev_int rfl) ev_str (w_eq _)) (s_retD (ev_if (et_of (ev_lt (ev_ix (ev_var rfl) ev_int rfl) (ev_ix (ev_var rfl) ev_int rfl))) (fun h => ?_) (fun h => ?_)) rr.1)))
      · have e : pcs (.part n a b) = [.part n a b []] := by simp only [pcs]; rw [if_pos (of_decide_eq_true h)]
        rw [e]
        exact ev_tupD (ead_cons (ev_cat (ds := [.str "part", .str (nmS n), .int a, .int b]) (es := [.tuple []]) (ev_var rfl) (ev_tupD (ead_cons (ev_tupD ead_nil) ead_nil)) (by simp)) ead_nil)
      · have e : pcs (.part n a b) = [] := by simp only [pcs]; rw [if_neg (of_decide_eq_false h)]
        rw [e]
        exact ev_tupD ead_nil
    | sum a b =>
      simp only [okT] at ht
      obtain ⟨q', e1, h1, h2⟩ := ht
      have g1 := cok a q' e1 h1
      have g2 := cok b q' e1 h2
      have l1 := g1.len
      have l2 := g2.len
      refine q_ifF (et_word (ev_ix (ev_var rfl) ev_int rfl) ev_str (by decide +kernel)) (q_ifF (et_word (ev_ix (ev_var rfl) ev_int rfl) ev_str (by decide +kernel)) (q_ifF (et_word (ev_ix (ev_var rfl) ev_int rfl) ev_str (by decide +kernel)) ?_))
      refine q_asg (sub a q' e1 h1 (ev_ix (ev_var rfl) ev_int rfl)) ?_
      refine q_ifT (et_word (ev_ix (ev_var rfl) ev_int rfl) ev_str (w_eq _)) (s_retD (ev_call (ds := [pt (pcs a), pt (pcs b)]) (ead_cons (ev_var rfl) (ead_cons (sub b q' e1 h2 (ev_ix (ev_var rfl) ev_int rfl)) ead_nil)) ⟨pcs a, pcs b, rfl, g1.l520, g2.l520, by omega, ?_⟩ (lf_pt _)) rr.1)
      rw [lboth_eq _ _ g2.nrm]
      rfl
    | times a k =>
      simp only [okT] at ht
      obtain ⟨q', e1, h1, h2, h3⟩ := ht
      have g1 := cok a q' e1 h1
      have ht := g1.tot
      refine q_ifF (et_word (ev_ix (ev_var rfl) ev_int rfl) ev_str (by decide +kernel)) (q_ifF (et_word (ev_ix (ev_var rfl) ev_int rfl) ev_str (by decide +kernel)) (q_ifF (et_word (ev_ix (ev_var rfl) ev_int rfl) ev_str (by decide +kernel)) ?_))
      refine q_asg (sub a q' e1 h1 (ev_ix (ev_var rfl) ev_int rfl)) ?_
      exact q_ifF (et_word (ev_ix (ev_var rfl) ev_int rfl) ev_str (by decide +kernel)) (q_ifT (et_word (ev_ix (ev_var rfl) ev_int rfl) ev_str (w_eq _)) (s_retD (ev_call (ds := [pt (pcs a), .int k]) (ead_cons (ev_var rfl) (ead_cons (ev_ix (ev_var rfl) ev_int rfl) ead_nil)) ⟨pcs a, k, rfl, g1.l520, g1.ok, by omega, rfl⟩ (lf_pt _)) rr.1))
    | gain a t b =>
      simp only [okT] at ht
      obtain ⟨q', e1, h1, h2⟩ := ht
      have g1 := cok a q' e1 h1
      have ht := g1.tot
      refine q_ifF (et_word (ev_ix (ev_var rfl) ev_int rfl) ev_str (by decide +kernel)) (q_ifF (et_word (ev_ix (ev_var rfl) ev_int rfl) ev_str (by decide +kernel)) (q_ifF (et_word (ev_ix (ev_var rfl) ev_int rfl) ev_str (by decide +kernel)) ?_))
      refine q_asg (sub a q' e1 h1 (ev_ix (ev_var rfl) ev_int rfl)) ?_
      exact q_ifF (et_word (ev_ix (ev_var rfl) ev_int rfl) ev_str (by decide +kernel)) (q_ifF (et_word (ev_ix (ev_var rfl) ev_int rfl) ev_str (by decide +kernel)) (q_ifT (et_word (ev_ix (ev_var rfl) ev_int rfl) ev_str (w_eq _)) (s_retD (ev_call (ds := [pt (pcs a), gd1 (t, b)]) (ead_cons (ev_var rfl) (ead_cons (ev_tupD (ds := [.int t, .int b]) (ead_cons (ev_ix (ev_var rfl) ev_int rfl) (ead_cons (ev_ix (ev_var rfl) ev_int rfl) ead_nil))) ead_nil)) ⟨pcs a, (t, b), rfl, g1.ok, ⟨6, rfl, g1.l49⟩, by omega, rfl⟩ (lf_pt _)) rr.1)))
    | cut a x y =>
      simp only [okT] at ht
      obtain ⟨q', e1, h1, h2, h3, h4, h5⟩ := ht
      have g1 := cok a q' e1 h1
      have ht := g1.tot
      have hl := lo3_hi3 h2 h4 (total_nn g1.ok)
      refine q_ifF (et_word (ev_ix (ev_var rfl) ev_int rfl) ev_str (by decide +kernel)) (q_ifF (et_word (ev_ix (ev_var rfl) ev_int rfl) ev_str (by decide +kernel)) (q_ifF (et_word (ev_ix (ev_var rfl) ev_int rfl) ev_str (by decide +kernel)) ?_))
      refine q_asg (sub a q' e1 h1 (ev_ix (ev_var rfl) ev_int rfl)) ?_
      refine q_ifF (et_word (ev_ix (ev_var rfl) ev_int rfl) ev_str (by decide +kernel)) (q_ifF (et_word (ev_ix (ev_var rfl) ev_int rfl) ev_str (by decide +kernel)) (q_ifF (et_word (ev_ix (ev_var rfl) ev_int rfl) ev_str (by decide +kernel)) ?_))
      refine q_asg (sum_sizes (r := 7) g1 (fun p hp => ev_call (ds := [pd p]) (ead_cons (ev_var rfl) ead_nil) ⟨p, rfl, okL_mem g1.ok hp, ⟨6, rfl, limL_mem g1.l50 hp⟩, by have := plen_mem g1.ok hp; omega, rfl⟩ rfl) (ev_var rfl)) ?_
      refine q_unl (ev_sorted2 (a := min x (total (pcs a))) (b := min y (total (pcs a))) (ev_lstD (ead_cons (ev_min2 (ev_ix (ev_var rfl) ev_int rfl) (ev_var rfl)) (ead_cons (ev_min2 (ev_ix (ev_var rfl) ev_int rfl) (ev_var rfl)) ead_nil)))) ?_
      refine s_retD (ev_call (ds := [pt (pcs a), .int (lo3 x y (total (pcs a))), .int (hi3 x y (total (pcs a)))]) (ead_cons (ev_var rfl) (ead_cons (ev_var rfl) (ead_cons (ev_var rfl) ead_nil))) ⟨pcs a, _, _, rfl, g1.ok, ⟨6, rfl, g1.l50⟩, by omega, by omega, hl.2.1, ?_⟩ (lf_pt _)) rr.1
      rw [str_eq g1.ok hl.2.1]
      rfl
end
end Cl

/-! part W10 -/
namespace Cl
open PySem L2
theorem n_gained : (("gained" : Str) == "own_pieces") = false ∧ (("gained" : Str) == "own_length") = false := by decide +kernel
theorem n_cut : (("cut" : Str) == "own_pieces") = false ∧ (("cut" : Str) == "own_length") = false := by decide +kernel
section
variable {P : Program} {w : World} {K : Frg} {mg : Str → Option Value} {base : Heap} (T : Tx K mg)
theorem fn_no {f : Addr} {fd : FuncData} {ps : List Str} {sp : Sp} (no : ∀ vs H Q E, ¬ sp vs H Q E) : FnOk P w K mg base CX0 0 f fd ps sp :=
  ⟨fun vs H Q E h => absurd h (no vs H Q E), fun A outer s H args us vs Q E _ _ _ _ h => absurd h (no vs H Q E)⟩
theorem up1d {m : Mo} {a : PyData} : UpA (m := m) [Dd K a] [Dd K a] := .cons up_d .nil
theorem up3d {m : Mo} {a b d : PyData} : UpA (m := m) [Dd K a, Dd K b, Dd K d] [Dd K a, Dd K b, Dd K d] := .cons up_d (.cons up_d (.cons up_d .nil))
theorem up2c {m : Mo} {C : Addr} {xs ys : List Piece} : UpA (m := m) [dClip K C xs, dClip K C ys] [dClip K C xs, dClip K C ys] := .cons up_clip (.cons up_clip .nil)
theorem up2i {m : Mo} {C : Addr} {xs : List Piece} {a : PyData} : UpA (m := m) [dClip K C xs, Dd K a] [dClip K C xs, Dd K a] := .cons up_clip (.cons up_d .nil)
def spMade (K : Frg) (C : Addr) (r : Nat) : Sp := spQ (fun t : Tree => [Dd K (td t)]) (fun t => ∃ q, r = q + 1 ∧ okT t q ∧ q ≤ 6) (fun t => dClip K C (pcs t))
theorem ok_law_made : ∀ r : Nat, FnOk P w K mg base CX0 (r + 25) T.law_made.f T.law_made.fd ["_law_tree"] (spMade K T.C r)
  | 0 => (fn_no (fun vs H Q E ⟨x, ⟨q, e, _⟩, _⟩ => by omega) : FnOk P w K mg base CX0 0 T.law_made.f T.law_made.fd ["_law_tree"] (spMade K T.C 0)).mono (by omega)
  | r + 1 => by
    have G_law_made := ok_law_made r
    have G_c_silence := ok_c_silence (P := P) (w := w) (base := base) T
    have G_c_samples := ok_c_samples (P := P) (w := w) (base := base) T
    have G_c_part := ok_c_part (P := P) (w := w) (base := base) T
    have G_c_add := ok_c_add (P := P) (w := w) (base := base) T
    have G_c_mul := ok_c_mul (P := P) (w := w) (base := base) T
    have G_c_gained := ok_c_gained (P := P) (w := w) (base := base) T
    have G_c_cut := ok_c_cut (P := P) (w := w) (base := base) T
    have G_len := ok_c_length (P := P) (w := w) (base := base) T
    refine ok_Q T.law_made.F sc_law_made (fun _ => rfl) (fun cdv A outer s H E hr => ⟨_, (pss_cons (ps_if (pt_cmpR op_eq (pe_ix ix_tup (pv 0) pe_int (fun _ _ => rfl)) pe_str (nomark _)) (pss_one (ps_ret (pe_static (by rfl) T.mgC T.rd T.s_silence G_c_silence (hr.mono (by omega)) T.c_silence.b pass0 (pa_cons (pe_ix ix_tup (pv 0) pe_int (fun _ _ => rfl)) pa_nil)))) pss_nil)
      (pss_cons (ps_if (pt_cmpR op_eq (pe_ix ix_tup (pv 0) pe_int (fun _ _ => rfl)) pe_str (nomark _)) (pss_one (ps_ret (pe_static (by rfl) T.mgC T.rd T.s_samples G_c_samples (hr.mono (by omega)) T.c_samples.b pass0 (pa_cons (pe_ix ix_tup (pv 0) pe_int (fun _ _ => rfl)) pa_nil)))) pss_nil)
      (pss_cons (ps_if (pt_cmpR op_eq (pe_ix ix_tup (pv 0) pe_int (fun _ _ => rfl)) pe_str (nomark _)) (pss_one (ps_ret (pe_static (by rfl) T.mgC T.rd T.s_part G_c_part (hr.mono (by omega)) T.c_part.b pass0 (pa_cons (pe_ix ix_tup (pv 0) pe_int (fun _ _ => rfl)) (pa_cons (pe_ix ix_tup (pv 0) pe_int (fun _ _ => rfl)) (pa_cons (pe_ix ix_tup (pv 0) pe_int (fun _ _ => rfl)) pa_nil)))))) pss_nil)
      (pss_cons (ps_set (i := 1) sc_law_made.nd rfl (Or.inl rfl) (pe_call G_law_made (hr.mono (by omega)) rfl T.law_made.m T.law_made.F.kp T.law_made.b .nil pass0 (pa_cons (pe_ix ix_tup (pv 0) pe_int (fun _ _ => rfl)) pa_nil)))
      (pss_cons (ps_if (pt_cmpR op_eq (pe_ix ix_tup (pv 0) pe_int (fun _ _ => rfl)) pe_str (nomark _)) (pss_one (ps_ret (pe_op (op_own G_c_add (hr.mono (by omega)) T.c_add.b pass0 T.sf (dn_add T.a_add) T.i_add) (pv 1) (pe_call G_law_made (hr.mono (by omega)) rfl T.law_made.m T.law_made.F.kp T.law_made.b .nil pass0 (pa_cons (pe_ix ix_tup (pv 0) pe_int (fun _ _ => rfl)) pa_nil))))) pss_nil)
      (pss_cons (ps_if (pt_cmpR op_eq (pe_ix ix_tup (pv 0) pe_int (fun _ _ => rfl)) pe_str (nomark _)) (pss_one (ps_ret (pe_op (op_ownI G_c_mul (hr.mono (by omega)) T.c_mul.b pass0 T.sf (dn_mul T.a_mul) T.i_mul (dn_rmul T.a_rmul) (Or.inl rfl) (dn_mul T.t_mul) (dn_rmul T.t_rmul) T.t_sub) (pv 1) (pe_ix ix_tup (pv 0) pe_int (fun _ _ => rfl))))) pss_nil)
      (pss_cons (ps_if (pt_cmpR op_eq (pe_ix ix_tup (pv 0) pe_int (fun _ _ => rfl)) pe_str (nomark _)) (pss_one (ps_ret (pe_meth (pv 1) T.cl T.h_gained G_c_gained (hr.mono (by omega)) T.c_gained.b .nil pass0 (pa_cons (pe_ix ix_tup (pv 0) pe_int (fun _ _ => rfl)) (pa_cons (pe_ix ix_tup (pv 0) pe_int (fun _ _ => rfl)) pa_nil))))) pss_nil)
      (pss_cons (ps_asg (pe_callB cr_sorted (by rfl) T.n_sorted (by decide +kernel) (pa_cons (pe_lst (pa_cons (pe_callB (call_min2 rfl) (by rfl) T.n_min (by decide +kernel) (pa_cons (pe_ix ix_tup (pv 0) pe_int (fun _ _ => rfl)) (pa_cons (pe_prop (pv 1) T.cl T.p_length G_len (hr.mono (by omega)) T.c_length.b .nil pass0 rfl) pa_nil))) (pa_cons (pe_callB (call_min2 rfl) (by rfl) T.n_min (by decide +kernel) (pa_cons (pe_ix ix_tup (pv 0) pe_int (fun _ _ => rfl)) (pa_cons (pe_prop (pv 1) T.cl T.p_length G_len (hr.mono (by omega)) T.c_length.b .nil pass0 rfl) pa_nil))) pa_nil))) pa_nil)) (pg_unl (by rfl) (pgs_cons (pg_name (i := 2) sc_law_made.nd rfl (Or.inl rfl)) (pgs_cons (pg_name (i := 3) sc_law_made.nd rfl (Or.inl rfl)) pgs_nil))))
      (pss_one (ps_ret (pe_meth (pv 1) T.cl T.h_cut G_c_cut (hr.mono (by omega)) T.c_cut.b .nil pass0 (pa_cons (pv 2) (pa_cons (pv 3) pa_nil))))))))))))), ?_⟩)
    rintro t ⟨q, hq, ht, hq6⟩ D H0 rr
    have hqr : q = r := by omega
    subst hqr
    have ct := (pcs_good t q ht).cok hq6
    have sub : ∀ (a : Tree) (q' : Nat) {te : TE} {δ : Dl .non}, q = q' + 1 → okT a q' → Ev K te δ [] (Dd K (td a)) → ∀ {E : XK}, Ev K (tCall (spMade K T.C q) [] E (tCons te tNil)) δ [] (dClip K T.C (pcs a)) := fun a q' te δ e h hv E => ev_callQ (Ps := [Dd K (td a)]) a (ea_cons hv ea_nil) ⟨q', e, h, by omega⟩ up1d dn_same
    have cok : ∀ (a : Tree) (q' : Nat), q = q' + 1 → okT a q' → Cok (pcs a) := fun a q' e h => (pcs_good a q' h).cok (by omega)
    cases t with
    | sil n =>
      simp only [okT] at ht
      exact q_ifT (et_word (ev_ix (ev_var rfl) ev_int rfl) ev_str (w_eq _)) (s_retQ (ev_callQ (Ps := [Dd K (.int n)]) n (ea_cons (ev_ix (ev_var rfl) ev_int rfl) ea_nil) ⟨ht.1, by omega, ct⟩ up1d dn_same) rr.1)
    | smp xs =>
      simp only [okT] at ht
      exact q_ifF (et_word (ev_ix (ev_var rfl) ev_int rfl) ev_str w_ms) (q_ifT (et_word (ev_ix (ev_var rfl) ev_int rfl) ev_str (w_eq _)) (s_retQ (ev_callQ (Ps := [Dd K (.list (ids xs))]) xs (ea_cons (ev_ix (ev_var rfl) ev_int rfl) ea_nil) ⟨by omega, ct⟩ up1d dn_same) rr.1))
    | part n a b =>
      simp only [okT] at ht
      exact q_ifF (et_word (ev_ix (ev_var rfl) ev_int rfl) ev_str w_ps) (q_ifF (et_word (ev_ix (ev_var rfl) ev_int rfl) ev_str (by decide +kernel)) (q_ifT (et_word (ev_ix (ev_var rfl) ev_int rfl) ev_str (w_eq _)) (s_retQ (ev_callQ (Ps := [Dd K (.str (nmS n)), Dd K (.int a), Dd K (.int b)]) (n, a, b) (ea_cons (ev_ix (ev_var rfl) ev_int rfl) (ea_cons (ev_ix (ev_var rfl) ev_int rfl) (ea_cons (ev_ix (ev_var rfl) ev_int rfl) ea_nil))) ⟨ht.1, ht.2.1, ct⟩ up3d dn_same) rr.1)))
    | sum a b =>
      simp only [okT] at ht
      obtain ⟨q', e1, h1, h2⟩ := ht
      have g1 := cok a q' e1 h1
      have g2 := cok b q' e1 h2
      refine q_ifF (et_word (ev_ix (ev_var rfl) ev_int rfl) ev_str (by decide +kernel)) (q_ifF (et_word (ev_ix (ev_var rfl) ev_int rfl) ev_str (by decide +kernel)) (q_ifF (et_word (ev_ix (ev_var rfl) ev_int rfl) ev_str (by decide +kernel)) ?_))
      refine q_asg (sub a q' e1 h1 (ev_ix (ev_var rfl) ev_int rfl)) ?_
      exact q_ifT (et_word (ev_ix (ev_var rfl) ev_int rfl) ev_str (w_eq _)) (s_retQ (ev_ownQ (xs := pcs a) (ys := pcs b) (pcs a, pcs b) (ev_var rfl) (sub b q' e1 h2 (ev_ix (ev_var rfl) ev_int rfl)) ⟨g1, g2, ct⟩ up2c dn_same) rr.1)
    | times a k =>
      simp only [okT] at ht
      obtain ⟨q', e1, h1, h2, h3⟩ := ht
      have g1 := cok a q' e1 h1
      refine q_ifF (et_word (ev_ix (ev_var rfl) ev_int rfl) ev_str (by decide +kernel)) (q_ifF (et_word (ev_ix (ev_var rfl) ev_int rfl) ev_str (by decide +kernel)) (q_ifF (et_word (ev_ix (ev_var rfl) ev_int rfl) ev_str (by decide +kernel)) ?_))
      refine q_asg (sub a q' e1 h1 (ev_ix (ev_var rfl) ev_int rfl)) ?_
      exact q_ifF (et_word (ev_ix (ev_var rfl) ev_int rfl) ev_str (by decide +kernel)) (q_ifT (et_word (ev_ix (ev_var rfl) ev_int rfl) ev_str (w_eq _)) (s_retQ (ev_ownI (xs := pcs a) (i := k) (pcs a, k) (ev_var rfl) (ev_ix (ev_var rfl) ev_int rfl) ⟨h2, by omega, g1, ct⟩ up2i dn_same) rr.1))
    | gain a t b =>
      simp only [okT] at ht
      obtain ⟨q', e1, h1, h2, h3, h4, h5⟩ := ht
      have g1 := cok a q' e1 h1
      refine q_ifF (et_word (ev_ix (ev_var rfl) ev_int rfl) ev_str (by decide +kernel)) (q_ifF (et_word (ev_ix (ev_var rfl) ev_int rfl) ev_str (by decide +kernel)) (q_ifF (et_word (ev_ix (ev_var rfl) ev_int rfl) ev_str (by decide +kernel)) ?_))
      refine q_asg (sub a q' e1 h1 (ev_ix (ev_var rfl) ev_int rfl)) ?_
      exact q_ifF (et_word (ev_ix (ev_var rfl) ev_int rfl) ev_str (by decide +kernel)) (q_ifF (et_word (ev_ix (ev_var rfl) ev_int rfl) ev_str (by decide +kernel)) (q_ifT (et_word (ev_ix (ev_var rfl) ev_int rfl) ev_str (w_eq _)) (s_retQ (ev_methQ (Ps := [Dd K (.int t), Dd K (.int b)]) (pcs a, t, b) (ev_var rfl) n_gained (ea_cons (ev_ix (ev_var rfl) ev_int rfl) (ea_cons (ev_ix (ev_var rfl) ev_int rfl) ea_nil)) ⟨(by omega : -1000 ≤ t), (by omega : t ≤ 1000), h4, (by omega : b ≤ 1000), g1, ct⟩ up3 dn_same) rr.1)))
    | cut a x y =>
      simp only [okT] at ht
      obtain ⟨q', e1, h1, h2, h3, h4, h5⟩ := ht
      have g1 := cok a q' e1 h1
      have ht := g1.tot
      have hl := lo3_hi3 h2 h4 (total_nn g1.ok)
      refine q_ifF (et_word (ev_ix (ev_var rfl) ev_int rfl) ev_str (by decide +kernel)) (q_ifF (et_word (ev_ix (ev_var rfl) ev_int rfl) ev_str (by decide +kernel)) (q_ifF (et_word (ev_ix (ev_var rfl) ev_int rfl) ev_str (by decide +kernel)) ?_))
      refine q_asg (sub a q' e1 h1 (ev_ix (ev_var rfl) ev_int rfl)) ?_
      refine q_ifF (et_word (ev_ix (ev_var rfl) ev_int rfl) ev_str (by decide +kernel)) (q_ifF (et_word (ev_ix (ev_var rfl) ev_int rfl) ev_str (by decide +kernel)) (q_ifF (et_word (ev_ix (ev_var rfl) ev_int rfl) ev_str (by decide +kernel)) ?_))
      refine q_unl (ev_sorted2 (a := min x (total (pcs a))) (b := min y (total (pcs a))) (ev_lstD (ead_cons (ev_min2 (ev_ix (ev_var rfl) ev_int rfl) (ev_prop (ev_var rfl))) (ead_cons (ev_min2 (ev_ix (ev_var rfl) ev_int rfl) (ev_prop (ev_var rfl))) ead_nil)))) ?_
      exact s_retQ (ev_methQ (Ps := [Dd K (.int (lo3 x y (total (pcs a)))), Dd K (.int (hi3 x y (total (pcs a))))]) (pcs a, lo3 x y (total (pcs a)), hi3 x y (total (pcs a))) (ev_var rfl) n_cut (ea_cons (ev_var rfl) (ea_cons (ev_var rfl) ea_nil)) ⟨hl.1, hl.2.1, hl.2.2, g1, ct⟩ up3 dn_same) rr.1
end
end Cl

/-! part W11 -/
namespace Cl
open PySem L2
theorem S.go {K : Frg} {m : Mo} {ts : TS} {D : Ends} {δ : Dl m} {c : List PyData} {H0 H : Hp} {σ : St} (h : S K ts D δ c H0) (s : DS K H σ δ c) (l : Ls m H0 H) : ts D σ H := h σ H s l
def startM {m : Mo} (N : List Str) (As : List (De m)) : Dl m := As.map some ++ List.replicate (N.length - As.length) none
theorem AllP.at {m : Mo} {H : Hp} : ∀ {As : List (De m)} {vs : List V} {i : Nat} {P : De m}, AllP As vs H → As[i]? = some P → ∃ v, vs[i]? = some v ∧ P.p v H
  | [], _, _, _, _, e => by simp at e
  | A :: As, _, 0, _, .cons h t, e => by simp at e; subst e; exact ⟨_, rfl, h⟩
  | A :: As, _, i + 1, P, .cons h t, e => by
    obtain ⟨v, e1, p⟩ := AllP.at (i := i) t (by simpa using e)
    exact ⟨v, by simpa using e1, p⟩
theorem dp_startM {K : Frg} {m : Mo} {H : Hp} {N : List Str} {As : List (De m)} {vs : List V} {c : List PyData} (w : WF m H) (hc : ∀ a, m = .lst a → ∃ vs, H a = some (.lst vs) ∧ DpAll K (del m H) vs c) (h : AllP As vs H) : DS K H (L2.start N vs) (startM N As) c where
  wf := w
  len := by
    unfold L2.start startM
    rw [List.length_append, List.length_append, List.length_map, List.length_map, List.length_replicate, List.length_replicate, h.length]
  at_ := fun i P e => by
    have hl := h.length
    unfold startM at e
    by_cases hi : i < As.length
    · rw [List.getElem?_append_left (by rw [List.length_map]; exact hi), List.getElem?_map] at e
      cases eA : As[i]? with
      | none => rw [eA] at e; cases e
      | some A =>
        rw [eA] at e
        cases e
        obtain ⟨v, e1, p⟩ := h.at eA
        refine ⟨v, ?_, p⟩
        unfold L2.start
        rw [List.getElem?_append_left (by rw [List.length_map, ← hl]; exact hi), List.getElem?_map, e1]
        rfl
    · rw [List.getElem?_append_right (by rw [List.length_map]; omega), List.getElem?_replicate] at e
      split at e <;> cases e
  ct := hc
section
variable {K : Frg} {m : Mo} {δ : Dl m} {c : List PyData} {P P' : De m} {ta tb te : TE} {d e : PyData} {ds es : List PyData} {D : Ends} {H0 : Hp} {tv : TS}
theorem s_retC (h : Ev K te δ c P) (k : ∀ v H, Ls m H0 H → (∀ a, m = .lst a → ∃ vs, H a = some (.lst vs) ∧ DpAll K (del m H) vs c) → P.p v H → D.rt v H) : S K (tRet te) D δ c H0 := fun σ H s l =>
  h σ H _ s fun v H1 l1 p => k v H1 (l.trans l1.ex) (s.mono l1).ct p
theorem ev_modI {i j : Int} (ha : Ev K ta δ c (Dd K (.int i))) (hb : Ev K tb δ c (Dd K (.int j))) (hc : 0 < j) : Ev K (tOp (rI (fun _ j => 0 < j) fun i j => .int (i % j)) ta tb) δ c (dIn 0 j) :=
  (ev_mod ha hb hc).imp fun v H p => by
    cases p
    exact ⟨_, rfl, Int.emod_nonneg _ (by omega), Int.emod_lt_of_pos _ hc⟩
/-- new lists -/
theorem en_lst {tr : TA} (h : EvAD K tr δ c ds) (hz : ds.length ≤ 1000000 := by exact Nat.le_of_ble_eq_true rfl) : EvN K (tLst tr) δ c ds := fun σ H Q s q =>
  h σ H _ s fun vs H1 l1 ps => ⟨by rw [← ps.length, List.length_map]; exact sz3 hz, fun p hp => q p H1 vs l1 hp ps.data⟩
theorem en_slL {tl th : TO} {lo hi : Option Int} (ha : Ev K ta δ c (Dd K (.list ds))) (hl : EvO K tl δ c lo) (hh : EvO K th δ c hi) : EvN K (tSl (rSlL K) ta tl th) δ c (cutD ds lo hi) := fun σ H Q s q =>
  ha σ H _ s fun x H1 l1 p => hl σ H1 _ (s.mono l1) fun H2 l2 => hh σ H2 _ (s.mono (l1.trans l2)) fun H3 l3 => by
    have p := Dp.mono (l2.trans l3).ex _ _ p
    cases p with
    | @lst a xs _ hq hall =>
      refine ⟨a, xs, rfl, Same.seq del_sub hq, fun b hb => q b H3 _ ((l1.trans l2).trans l3) hb ?_⟩
      unfold cutV cutD
      rw [hall.length]
      exact (hall.drop _).take _
def dLst (K : Frg) {m : Mo} (ds : List PyData) : De m := ⟨fun v H => ∃ a vs, v = .ref a ∧ del m H a = some (.lst vs) ∧ DpAll K (del m H) vs ds, fun _ _ _ l ⟨a, vs, e, h, q⟩ => ⟨a, vs, e, l _ _ h, Dp.monos l _ _ q⟩⟩
theorem ev_new (h : EvN K te δ c ds) : Ev K te δ c (dLst K ds) := fun σ H Q s q =>
  h σ H _ s fun a H1 vs l1 ha hall => q _ _ (l1.trans (Le.new (l1.wf s.wf) ha)) ⟨a, vs, rfl, del_new (l1.wf s.wf) ha, Dp.monos (Le.new (l1.wf s.wf) ha).ex _ _ hall⟩
theorem ev_newD (h : EvN K te δ c ds) : Ev K te δ c (Dd K (.list ds)) := (ev_new h).imp fun v H ⟨a, vs, e, h, q⟩ => by
  subst e
  exact .lst (.inl (.inl h)) q
theorem en_cat (ha : Ev K ta δ c (dLst K ds)) (hb : Ev K tb δ c (dLst K es)) (hz : ds.length + es.length ≤ 1000000) : EvN K (tOp rCat ta tb) δ c (ds ++ es) := fun σ H Q s q =>
  ha σ H _ s fun x H1 l1 p1 => hb σ H1 _ (s.mono l1) fun y H2 l2 p2 => by
    obtain ⟨a, vs, e1, h1, q1⟩ := (dLst K ds).mono x H1 H2 l2.ex p1
    obtain ⟨b, us, e2, h2, q2⟩ := p2
    subst e1 e2
    exact ⟨a, b, vs, us, rfl, rfl, del_sub _ _ h1, del_sub _ _ h2, by rw [q1.length, q2.length]; exact sz3 hz, fun p hp => q p H2 _ (l1.trans l2) hp (q1.append q2)⟩
theorem s_retN {δ : Dl .non} (h : EvN K te δ c ds) (k : ∀ a H1 vs, Same H0 H1 → H1 a = none → DpAll K H1 vs ds → D.rt (.ref a) (upd H1 a (.lst vs))) : S K (tRet te) D δ c H0 := fun σ H s l =>
  h σ H _ s fun a H1 vs l1 ha hall => k a H1 vs ((ls_non l).trans (by have := l1.ex; rw [del_non, del_non] at this; exact this)) ha (by rw [del_non] at hall; exact hall)
/-- some int -/
abbrev dInt (K : Frg) {m : Mo} : De m := dEx (fun _ : Int => True) fun x => Dd K (.int x)
theorem ev_any {i : Int} (h : Ev K te δ c (Dd K (.int i))) : Ev K te δ c (dInt K) := h.imp fun v H p => ⟨i, trivial, p⟩
end
theorem cut_ids (ns : List Int) (lo hi : Option Int) : ∃ zs, cutD (ids ns) lo hi = ids zs ∧ zs.length ≤ ns.length := ⟨_, by
  unfold cutD ids
  rw [← List.map_drop, ← List.map_take], by
  rw [List.length_take, List.length_drop]
  omega⟩
section
variable {P : Program} {w : World} {K : Frg} {mg : Str → Option Value} {base : Heap} (T : Tx K mg)
/-- the next of many -/
def spTake : Sp := fun vs H Q _ => ∃ (a : Addr) (n : Int), vs = [.ref a, .int n] ∧ PoolAt H a ∧ 0 < n ∧ n < 1073741824 ∧ ∀ H' i, Le (.pool a) H H' → 0 ≤ i → i < n → Q (.int i) H'
theorem ok_law_take : FnOk P w K mg base CX0 1 T.law_take.f T.law_take.fd ["_law_pool_here", "_law_many"] spTake := by
  refine T.law_take.F.ok sc_law_take (fun vs H Q E h => ?_) (fun cdv A outer s H vs Q E hr h => ?_)
  · obtain ⟨a, n, rfl, _⟩ := h
    rfl
  obtain ⟨a, n, rfl, ⟨x, y, hp⟩, h0, h1, q⟩ := h
  refine ⟨_, (pss_cons (ps_if (pt_cmpR op_gt (pe_ix ix_list (pv 0) pe_int (fun _ _ => rfl)) pe_int (nomark _)) (pss_cons (ps_set (i := 2) sc_law_take.nd rfl (Or.inl rfl) (pe_op op_mod (pe_callTy call_int1 (by rfl) T.n_int (by decide +kernel) (pa_cons (pe_ix ix_list (pv 0) pe_int (fun _ _ => rfl)) pa_nil)) (pv 1)))
      (pss_cons (ps_asg (pe_op op_fdiv (pe_ix ix_list (pv 0) pe_int (fun _ _ => rfl)) (pv 1)) (pg_sub (pv 0) pe_int set_list))
      (pss_one (ps_ret (pv 2))))) pss_nil)
      (pss_cons (ps_asg (pe_op op_mod (pe_callTy call_int1 (by rfl) T.n_int (by decide +kernel) (pa_cons (pe_op op_add (pe_op op_mul (pe_ix ix_list (pv 0) pe_int (fun _ _ => rfl)) pe_int) pe_int) pa_nil)) pe_int) (pg_sub (pv 0) pe_int set_list))
      (pss_one (ps_ret (pe_op op_mod (pe_op op_fdiv (pe_op op_mod (pe_callTy call_int1 (by rfl) T.n_int (by decide +kernel) (pa_cons (pe_op op_mul (pe_ix ix_list (pv 0) pe_int (fun _ _ => rfl)) (pe_ix ix_list (pv 0) pe_int (fun _ _ => rfl))) pa_nil)) pe_int) pe_int) (pv 1)))))), ?_⟩
  have fin : ∀ (v : V) (H' : Hp) (u z : Int), Ls (.lst a) H H' → (∀ b, Mo.lst a = .lst b → ∃ vs, H' b = some (.lst vs) ∧ DpAll K (del (.lst a) H') vs [.int u, .int z]) → (dIn (m := .lst a) 0 n).p v H' → Q v H' := fun v H' u z l c ⟨i, e, h2, h3⟩ => by
    obtain ⟨vs, hv, hall⟩ := c a rfl
    have e2 := DpAll.ints (ns := [u, z]) hall
    subst e2 e
    exact q H' i ⟨l, fun _ => ⟨u, z, hv⟩⟩ h2 h3
  refine S.go (K := K) (m := .lst a) (δ := startM ["_law_pool_here", "_law_many", "_law_digit"] [dAt a, Dd K (.int n)]) (c := [.int x, .int y]) (H0 := H) ?_ (dp_startM ⟨_, hp⟩ (fun b e => by cases e; exact ⟨_, hp, .cons (.int x) (.cons (.int y) .nil)⟩) (.cons rfl (.cons (.int n) .nil))) (Same.refl _)
  refine q_if (et_of (ev_gt (evl_ix (ev_var rfl) ev_int rfl) ev_int)) (fun hx => ?_) (fun hx => ?_)
  · refine q_asgI (ev_modI (ev_int1 (evl_ix (ev_var rfl) ev_int rfl)) (ev_var rfl) h0) fun i i0 i1 => ?_
    exact s_seq (s_setL (ev_fdiv (evl_ix (ev_var rfl) ev_int rfl) (ev_var rfl) ⟨h0, h1⟩) (ev_var rfl) ev_int rfl (s_nx (s_retC (P := dIn 0 n) ((ev_var rfl).imp fun v H p => by cases p; exact ⟨i, rfl, i0, i1⟩) fun v H' l c p => fin v H' _ _ l c p)))
  · refine s_seq (s_setL (ev_mod (ev_int1 (ev_add (ev_mul (evl_ix (ev_var rfl) ev_int rfl) ev_int (.inr (by decide))) ev_int)) ev_int (by decide)) (ev_var rfl) ev_int rfl (s_nx (s_retC (P := dIn 0 n) (ev_modI (ev_fdiv (ev_mod (ev_int1 (ev_mul (evl_ix (ev_var rfl) ev_int rfl) (evl_ix (ev_var rfl) ev_int rfl) (.inl ⟨by omega, by omega⟩))) ev_int (by decide)) ev_int ⟨by decide, by decide⟩) (ev_var rfl) h0) fun v H' l c p => fin v H' _ _ l c p)))
/-- a new pool -/
def spPool (K : Frg) : Sp := fun vs H Q _ => ∃ (ns : List Int) (k : Int), AllP (m := .non) [Dd K (.list (ids ns)), Dd K (.int k)] vs H ∧ ns.length ≤ 63 ∧ 0 ≤ k ∧ k ≤ 63 ∧ ∀ l H', Same H H' → H l = none → PoolAt H' l → Q (.ref l) H'
theorem ok_law_pool : FnOk P w K mg base CX0 1 T.law_pool.f T.law_pool.fd ["_law_script", "_law_k"] (spPool K) := by
  refine T.law_pool.F.ok sc_law_pool (fun vs H Q E h => ?_) (fun cdv A outer s H vs Q E hr h => ?_)
  · obtain ⟨ns, k, ha, _⟩ := h
    exact ha.length.symm
  obtain ⟨ns, k, ha, hn, h0, h1, q⟩ := h
  refine ⟨_, (pss_cons (ps_set (i := 2) sc_law_pool.nd rfl (Or.inl rfl) (pe_ix ix_list (pe_op op_cat (pe_slice sl_list (pv 0) (po_some (pv 1)) (po_some (pe_op op_add (pv 1) pe_int))) (pe_lst (pa_cons pe_int pa_nil))) pe_int (fun _ _ => rfl)))
      (pss_cons (ps_set (i := 3) sc_law_pool.nd rfl (Or.inl rfl) (pe_ifExp (pt_cmpR op_ge (pv 2) pe_int (nomark _)) (pv 2) (pe_op op_sub (pe_un un_neg pe_int) (pv 2))))
      (pss_cons (ps_set (i := 4) sc_law_pool.nd rfl (Or.inl rfl) (pe_op op_mod (pe_op op_mul (pe_callTy call_int1 (by rfl) T.n_int (by decide +kernel) (pa_cons (pe_op op_add (pe_op op_add (pe_op op_add (pe_op op_mod (pv 3) pe_int) (pe_op op_mul (pe_op op_mul pe_int (pv 1)) (pv 1))) (pe_op op_mul pe_int (pv 1))) pe_int) pa_nil)) pe_int) pe_int))
      (pss_one (ps_ret (pe_lst (pa_cons (pe_op op_mul (pv 3) (pe_callTy call_int1 (by rfl) T.n_int (by decide +kernel) (pa_cons (pe_cmpR op_ge (pv 3) (pe_op op_pow pe_int pe_int) (nomark _)) pa_nil))) (pa_cons (pe_op op_mod (pe_op op_mul (pv 4) (pv 4)) pe_int) pa_nil)))))))), ?_⟩
  refine S.go (K := K) (m := .non) (δ := startM ["_law_script", "_law_k", "_law_cell", "_law_number", "_law_mixed"] [Dd K (.list (ids ns)), Dd K (.int k)]) (c := []) (H0 := H) ?_ (dp_startM trivial (fun b e => nomatch e) ha) (Same.refl _)
  obtain ⟨zs, ez, lz⟩ := cut_ids ns (some k) (some (k + 1))
  have hcell : ∃ x : Int, atI (cutD (ids ns) (some k) (some (k + 1)) ++ [.int 0]) 0 = some (.int x) := by
    rw [ez]
    cases zs with
    | nil => exact ⟨0, rfl⟩
    | cons z zs => exact ⟨z, atI_zero _ _⟩
  obtain ⟨x, hx⟩ := hcell
  refine q_asg (P := Dd K (.int x)) (ev_ixL (ev_newD (en_cat (ev_new (en_slL (ev_var rfl) (eo_some (ev_var rfl)) (eo_some (ev_add (ev_var rfl) ev_int)))) (ev_new (en_lst (ead_cons ev_int ead_nil))) (by rw [ez]; simp [ids]; omega))) ev_int hx) ?_
  refine q_asgX (ok := fun _ => True) (F := fun x : Int => Dd K (.int x)) (ev_if (et_of (ev_ge (ev_var rfl) ev_int)) (fun _ => ev_any (ev_var rfl)) (fun _ => ev_any (ev_sub (ev_neg ev_int) (ev_var rfl)))) fun number _ => ?_
  refine q_asgI (ev_modI (ev_mul (ev_int1 (ev_add (ev_add (ev_add (ev_mod (ev_var rfl) ev_int (by decide)) (ev_mul (ev_mul ev_int (ev_var rfl) (.inl (by decide))) (ev_var rfl) (.inr ⟨by omega, by omega⟩))) (ev_mul ev_int (ev_var rfl) (.inl (by decide)))) ev_int)) ev_int (.inr (by decide))) ev_int (by decide)) fun mixed m0 m1 => ?_
  refine s_retN (en_lst (ead_cons (ev_mul (ev_var rfl) (ev_intB (ev_ge (ev_var rfl) (ev_pow ev_int ev_int ⟨by decide, by decide, by decide⟩))) (.inr ⟨by split <;> decide, by split <;> decide⟩)) (ead_cons (ev_mod (ev_mul (ev_var rfl) (ev_var rfl) (.inl ⟨by omega, by omega⟩)) ev_int (by decide)) ead_nil))) fun a H1 vs e1 hn hall => ?_
  have e2 := DpAll.ints (ns := [_, _]) hall
  refine q a _ (e1.trans (same_new hn)) ?_ ⟨_, _, by rw [e2]; exact upd_same⟩
  cases e : H a with
  | none => rfl
  | some o => rw [e1 _ _ e] at hn; cases hn
end
end Cl

/-! part W12 -/
namespace Cl
open PySem L2
/-! ### the two lengths -/
def LEN : List (Key × V) := [(.inr "a", .int 12), (.inr "b", .int 5)]
def lenOf : Bool → Int
  | true => 12
  | false => 5
theorem lenOf_le (n : Bool) : 0 ≤ lenOf n ∧ lenOf n ≤ 12 := by cases n <;> decide
theorem len_merge : mergeK [] LEN = LEN := by simp [mergeK, LEN, putK, nm_ne]
theorem len_val (n : Bool) : valV LEN (.inr (nmS n)) = some (.int (lenOf n)) := by cases n <;> simp [valV, LEN, nmS, nm_ne, lenOf]
def dDic {m : Mo} : De m := ⟨fun v H => ∃ p, v = .ref p ∧ del m H p = some (.dK LEN), fun _ _ _ l ⟨p, e, h⟩ => ⟨p, e, l _ _ h⟩⟩
section
variable {K : Frg} {m : Mo} {δ : Dl m} {c : List PyData} {ta tb tc te : TE}
theorem ev_disp : Ev K (m := m) (tDisp [(tC (.str "a"), tC (.int 12)), (tC (.str "b"), tC (.int 5))]) δ c dDic := fun σ H Q s q p hp => by
  refine ⟨upd_same, LEN, rfl, by decide, ?_⟩
  rw [len_merge]
  refine q _ _ ((Le.new s.wf hp).mut s.wf hp) ⟨p, rfl, ?_⟩
  rw [del_ne (s.wf.ne hp)]
  exact upd_same
theorem ev_dget {n : Bool} (ha : Ev K ta δ c dDic) (hb : Ev K tb δ c (Dd K (.str (nmS n)))) : Ev K (tDGet ta tb) δ c (Dd K (.int (lenOf n))) := fun σ H Q s q =>
  ha σ H _ s fun x H1 l1 p1 => hb σ H1 _ (s.mono l1) fun y H2 l2 p2 => by
    obtain ⟨p, e, h⟩ := p1
    subst e
    cases p2
    exact ⟨p, .int (lenOf n), rfl, .inl ⟨LEN, .inr (nmS n), .inl (del_sub _ _ (l2.ex _ _ h)), rfl, (len_val n).symm⟩, q _ H2 (l1.trans l2) (.int _)⟩
theorem ab_at : ("ab" : Str).length ≤ sizeLine ∧ atI ("ab" : Str).cps.toList 0 = some 97 ∧ atI ("ab" : Str).cps.toList 1 = some 98 ∧ (⟨#[97]⟩ : Str) = "a" ∧ (⟨#[98]⟩ : Str) = "b" := by decide +kernel
theorem ev_nm (h : Ev K te δ c (dIn 0 2)) : Ev K (tOp rIxS (tC (.str "ab")) te) δ c (dEx (fun _ : Bool => True) fun n => Dd K (.str (nmS n))) :=
  ev_op ev_str h fun x y H Q w p1 p2 q => by
    cases p1
    obtain ⟨i, e, h0, h1⟩ := p2
    subst e
    have : i = 0 ∨ i = 1 := by omega
    rcases this with rfl | rfl
    · exact ⟨_, 0, 97, rfl, rfl, ab_at.1, ab_at.2.1, q _ H (Le.refl H) ⟨true, trivial, by rw [ab_at.2.2.2.1]; exact .str _⟩⟩
    · exact ⟨_, 1, 98, rfl, rfl, ab_at.1, ab_at.2.2.1, q _ H (Le.refl H) ⟨false, trivial, by rw [ab_at.2.2.2.2]; exact .str _⟩⟩
theorem ev_subIn {lo hi j : Int} (ha : Ev K ta δ c (dIn lo hi)) (hb : Ev K tb δ c (Dd K (.int j))) : Ev K (tOp (rI0 fun i j => .int (i - j)) ta tb) δ c (dIn (lo - j) (hi - j)) :=
  ev_op ha hb fun x y H Q w p1 p2 q => by
    obtain ⟨i, e, h0, h1⟩ := p1
    subst e
    cases p2
    exact ⟨i, j, rfl, rfl, q _ H (Le.refl H) ⟨_, rfl, by omega, by omega⟩⟩
theorem ev_addIn {lo hi j : Int} (ha : Ev K ta δ c (Dd K (.int j))) (hb : Ev K tb δ c (dIn lo hi)) : Ev K (tOp (rI0 fun i j => .int (i + j)) ta tb) δ c (dIn (j + lo) (j + hi)) :=
  ev_op ha hb fun x y H Q w p1 p2 q => by
    obtain ⟨i, e, h0, h1⟩ := p2
    subst e
    cases p1
    exact ⟨j, i, rfl, rfl, q _ H (Le.refl H) ⟨_, rfl, by omega, by omega⟩⟩
theorem ints_of : ∀ {es : List PyData}, (∀ (i : Nat) e, es[i]? = some e → ∃ j : Int, e = .int j) → ∃ xs, es = ids xs
  | [], _ => ⟨[], rfl⟩
  | e :: es, h => by
    obtain ⟨j, rfl⟩ := h 0 _ rfl
    obtain ⟨xs, rfl⟩ := ints_of (es := es) fun i e q => h (i + 1) e (by simpa using q)
    exact ⟨j :: xs, rfl⟩
end
section
variable {K : Frg} {a : Addr} {δ : Dl (.pool a)} {c : List PyData} {ta tb tc : TE} {E : XK}
theorem ev_take {n : Int} (h1 : Ev K ta δ c (dAt a)) (h2 : Ev K tb δ c (Dd K (.int n))) (h0 : 0 < n) (hn : n < 1073741824) : Ev K (tCall spTake [] E (tCons ta (tCons tb tNil))) δ c (dIn 0 n) := fun σ H Q s q =>
  h1 σ H _ s fun v H1 l1 e => h2 σ H1 _ (s.mono l1) fun v2 H2 l2 e2 => by
    have e : v = .ref a := e
    subst e
    cases e2
    exact ⟨a, n, rfl, (l1.trans l2).wf s.wf, h0, hn, fun H' i l a1 a2 => q _ H' ((l1.trans l2).trans l) ⟨i, rfl, a1, a2⟩⟩
abbrev dTree (K : Frg) {m : Mo} (d : Nat) : De m := dEx (fun t => okT t d) fun t => Dd K (td t)
def spClip (K : Frg) (r : Nat) : Sp := fun vs H Q _ => ∃ (a : Addr) (d : Nat) (x : V), d < r ∧ vs = [.ref a, .int d, x] ∧ d ≤ 5 ∧ PoolAt H a ∧ (dDic (m := .pool a)).p x H ∧ ∀ v H', Le (.pool a) H H' → (dTree (m := .pool a) K d).p v H' → Q v H'
theorem ev_clip {r d : Nat} (h1 : Ev K ta δ c (dAt a)) (h2 : Ev K tb δ c (Dd K (.int d))) (h3 : Ev K tc δ c dDic) (hd : d ≤ 5) (hr : d < r) : Ev K (tCall (spClip K r) [] E (tCons ta (tCons tb (tCons tc tNil)))) δ c (dTree K d) := fun σ H Q s q =>
  h1 σ H _ s fun v H1 l1 e => h2 σ H1 _ (s.mono l1) fun v2 H2 l2 e2 => h3 σ H2 _ ((s.mono l1).mono l2) fun v3 H3 l3 e3 => by
    have e : v = .ref a := e
    subst e
    cases e2
    have l := (l1.trans l2).trans l3
    exact ⟨a, d, v3, hr, rfl, hd, l.wf s.wf, e3, fun v' H' l' p => q v' H' (l.trans l') p⟩
end
section
variable {P : Program} {w : World} {K : Frg} {mg : Str → Option Value} {base : Heap} (T : Tx K mg)
theorem ok_law_clip : ∀ r : Nat, FnOk P w K mg base CX0 (r + 1) T.law_clip.f T.law_clip.fd ["_law_pool_here", "_law_depth", "_law_lengths"] (spClip K r)
  | 0 => (fn_no (fun vs H Q E ⟨a, d, x, h, _⟩ => by omega) : FnOk P w K mg base CX0 0 T.law_clip.f T.law_clip.fd ["_law_pool_here", "_law_depth", "_law_lengths"] (spClip K 0)).mono (by omega)
  | r + 1 => by
    have G_law_clip := ok_law_clip r
    have G_law_take := ok_law_take (P := P) (w := w) (base := base) T
    refine T.law_clip.F.ok sc_law_clip (fun vs H Q E h => ?_) (fun cdv A outer s H vs Q E hr h => ?_)
    · obtain ⟨a, d, x, _, rfl, _⟩ := h
      rfl
    obtain ⟨a, d, x, hdr, rfl, hd5, hp, hx, q⟩ := h
    refine ⟨_, (pss_cons (ps_set (i := 3) sc_law_clip.nd rfl (Or.inl rfl) (pe_call G_law_take (hr.mono (by omega)) rfl T.law_take.m T.law_take.F.kp T.law_take.b .nil pass0 (pa_cons (pv 0) (pa_cons pe_int pa_nil))))
      (pss_cons (ps_if (PW.pt (pw_or (pt_cmpR op_eq (pv 1) pe_int (nomark _)) (pw_or1 (pt_cmpR op_lt (pv 3) pe_int (nomark _))))) (pss_cons (ps_set (i := 4) sc_law_clip.nd rfl (Or.inl rfl) (pe_call G_law_take (hr.mono (by omega)) rfl T.law_take.m T.law_take.F.kp T.law_take.b .nil pass0 (pa_cons (pv 0) (pa_cons pe_int pa_nil))))
      (pss_cons (ps_if (pt_cmpR op_eq (pv 4) pe_int (nomark _)) (pss_one (ps_ret (pe_tup (pa_cons pe_str (pa_cons (pe_call G_law_take (hr.mono (by omega)) rfl T.law_take.m T.law_take.F.kp T.law_take.b .nil pass0 (pa_cons (pv 0) (pa_cons pe_int pa_nil))) pa_nil))))) pss_nil)
      (pss_cons (ps_if (pt_cmpR op_eq (pv 4) pe_int (nomark _)) (pss_one (ps_ret (pe_tup (pa_cons pe_str (pa_cons (pe_lc (own := [("_law_turn", 5)]) (g := gName 5) (tt := tYes) (by rfl) sc_law_clip.nd (pi_range1 rfl T.n_range (pa_cons (pe_call G_law_take (hr.mono (by omega)) rfl T.law_take.m T.law_take.F.kp T.law_take.b .nil pass0 (pa_cons (pv 0) (pa_cons pe_int pa_nil))) pa_nil)) (blkOk_by (own := [("_law_turn", 5)]) (N := ["_law_pool_here", "_law_depth", "_law_lengths", "_law_way", "_law_kind", "_law_turn", "_law_name", "_law_start_here", "_law_first"]) (sc := defScope s_law_clip) (by decide +kernel)) (fun _ _ _ _ _ => pg_name (i := 5) sc_law_clip.nd rfl (Or.inl rfl)) (fun _ _ _ _ _ => pts_nil) (fun _ _ _ _ _ => (pe_op op_sub (pe_call G_law_take (hr.mono (by omega)) rfl T.law_take.m T.law_take.F.kp T.law_take.b .nil pass0 (pa_cons (pv 0) (pa_cons pe_int pa_nil))) pe_int))) pa_nil))))) pss_nil)
      (pss_cons (ps_set (i := 6) sc_law_clip.nd rfl (Or.inl rfl) (pe_ix ix_str pe_str (pe_call G_law_take (hr.mono (by omega)) rfl T.law_take.m T.law_take.F.kp T.law_take.b .nil pass0 (pa_cons (pv 0) (pa_cons pe_int pa_nil))) (fun _ _ => rfl)))
      (pss_cons (ps_set (i := 7) sc_law_clip.nd rfl (Or.inl rfl) (pe_call G_law_take (hr.mono (by omega)) rfl T.law_take.m T.law_take.F.kp T.law_take.b .nil pass0 (pa_cons (pv 0) (pa_cons (pe_op op_add (pe_dget (hu_of hr) (pv 2) (pv 6) (fun _ _ => rfl)) pe_int) pa_nil))))
      (pss_one (ps_ret (pe_tup (pa_cons pe_str (pa_cons (pv 6) (pa_cons (pv 7) (pa_cons (pe_op op_add (pv 7) (pe_call G_law_take (hr.mono (by omega)) rfl T.law_take.m T.law_take.F.kp T.law_take.b .nil pass0 (pa_cons (pv 0) (pa_cons (pe_op op_add (pe_op op_sub (pe_dget (hu_of hr) (pv 2) (pv 6) (fun _ _ => rfl)) (pv 7)) pe_int) pa_nil)))) pa_nil)))))))))))) pss_nil)
      (pss_cons (ps_set (i := 8) sc_law_clip.nd rfl (Or.inl rfl) (pe_call G_law_clip (hr.mono (by omega)) rfl T.law_clip.m T.law_clip.F.kp T.law_clip.b .nil pass0 (pa_cons (pv 0) (pa_cons (pe_op op_sub (pv 1) pe_int) (pa_cons (pv 2) pa_nil)))))
      (pss_cons (ps_if (pt_cmpR op_lt (pv 3) pe_int (nomark _)) (pss_one (ps_ret (pe_tup (pa_cons pe_str (pa_cons (pv 8) (pa_cons (pe_call G_law_clip (hr.mono (by omega)) rfl T.law_clip.m T.law_clip.F.kp T.law_clip.b .nil pass0 (pa_cons (pv 0) (pa_cons (pe_op op_sub (pv 1) pe_int) (pa_cons (pv 2) pa_nil)))) pa_nil)))))) pss_nil)
      (pss_cons (ps_if (pt_cmpR op_lt (pv 3) pe_int (nomark _)) (pss_one (ps_ret (pe_tup (pa_cons pe_str (pa_cons (pv 8) (pa_cons (pe_call G_law_take (hr.mono (by omega)) rfl T.law_take.m T.law_take.F.kp T.law_take.b .nil pass0 (pa_cons (pv 0) (pa_cons pe_int pa_nil))) pa_nil)))))) pss_nil)
      (pss_cons (ps_if (pt_cmpR op_eq (pv 3) pe_int (nomark _)) (pss_one (ps_ret (pe_tup (pa_cons pe_str (pa_cons (pv 8) (pa_cons (pe_op op_sub (pe_call G_law_take (hr.mono (by omega)) rfl T.law_take.m T.law_take.F.kp T.law_take.b .nil pass0 (pa_cons (pv 0) (pa_cons pe_int pa_nil))) pe_int) (pa_cons (pe_op op_add pe_int (pe_call G_law_take (hr.mono (by omega)) rfl T.law_take.m T.law_take.F.kp T.law_take.b .nil pass0 (pa_cons (pv 0) (pa_cons pe_int pa_nil)))) pa_nil))))))) pss_nil)
      (pss_one (ps_ret (pe_tup (pa_cons pe_str (pa_cons (pv 8) (pa_cons (pe_call G_law_take (hr.mono (by omega)) rfl T.law_take.m T.law_take.F.kp T.law_take.b .nil pass0 (pa_cons (pv 0) (pa_cons pe_int pa_nil))) (pa_cons (pe_call G_law_take (hr.mono (by omega)) rfl T.law_take.m T.law_take.F.kp T.law_take.b .nil pass0 (pa_cons (pv 0) (pa_cons pe_int pa_nil))) pa_nil))))))))))))), ?_⟩
    have fin : ∀ (v : V) (H' : Hp), Ls (.pool a) H H' → WF (.pool a) H' → (dTree (m := .pool a) K d).p v H' → Q v H' := fun v H' l w p => q v H' ⟨l, fun _ => w⟩ p
    refine S.go (K := K) (m := .pool a) (δ := startM ["_law_pool_here", "_law_depth", "_law_lengths", "_law_way", "_law_kind", "_law_turn", "_law_name", "_law_start_here", "_law_first"] [dAt a, Dd K (.int d), dDic]) (c := []) (H0 := H) ?_ (dp_startM hp (fun b e => nomatch e) (.cons rfl (.cons (.int _) (.cons hx .nil)))) (Same.refl _)
    refine q_asgI (ev_take (ev_var rfl) ev_int (by decide) (by decide)) fun way w0 w1 => ?_
    refine q_if (et_or (et_int (ev_var rfl) ev_int rfl) fun _ => et_of (ev_lt (ev_var rfl) ev_int)) (fun _ => ?_) (fun hb => ?_)
    · refine q_asgI (ev_take (ev_var rfl) ev_int (by decide) (by decide)) fun kind k0 k1 => ?_
      refine q_if (et_int (ev_var rfl) ev_int rfl) (fun _ => ?_) (fun _ => ?_)
      · refine s_ret (P := dTree K d) ((ev_tup (Ps := [Dd K (.str "silence"), dIn 0 9]) (ea_cons ev_str (ea_cons (ev_take (ev_var rfl) ev_int (by decide) (by decide)) ea_nil)) (by simp only [List.length_cons, List.length_nil]; omega)).imp fun v H ⟨b, vs, e, hq, hall⟩ => ?_) fin
        subst e
        cases hall with
        | cons h1 t =>
          cases t with
          | cons h2 t =>
            cases t
            obtain ⟨i, rfl, h3, h4⟩ := h2
            exact ⟨.sil i, ⟨h3, by omega⟩, .tup hq (.cons h1 (.cons (.int i) .nil))⟩
      refine q_if (et_int (ev_var rfl) ev_int rfl) (fun _ => ?_) (fun _ => ?_)
      · refine s_ret (P := dTree K d) ((ev_tup (Ps := [Dd K (.str "samples"), dEx (fun p : Nat × List PyData => (p.1 : Int) < 6 ∧ okEs p.1 (fun _ e => ∃ j : Int, e = .int j) p.2) fun p => Dd K (.list p.2)]) (ea_cons ev_str (ea_cons (ev_lcRX (lo := 0) (hi := 6) (ea_cons (ev_take (ev_var rfl) ev_int (by decide) (by decide)) ea_nil) ⟨by decide, by decide⟩ (fun i e ⟨j, e1⟩ => by subst e1; rfl)
          (fun i => (ev_subIn (ev_take (n := 19) (ev_var rfl) ev_int (by decide) (by decide)) ev_int).imp fun v H ⟨z, e, _, _⟩ => ⟨.int z, ⟨z, rfl⟩, by subst e; exact .int z⟩)) ea_nil)) (by simp only [List.length_cons, List.length_nil]; omega)).imp fun v H ⟨b, vs, e, hq, hall⟩ => ?_) fin
        subst e
        cases hall with
        | cons h1 t =>
          cases t with
          | cons h2 t =>
            cases t
            obtain ⟨⟨n, es⟩, ⟨h3, h4, h5⟩, h6⟩ := h2
            obtain ⟨xs, rfl⟩ := ints_of h5
            refine ⟨.smp xs, ?_, .tup hq (.cons h1 (.cons h6 .nil))⟩
            simp only [ids, List.length_map] at h4
            simp only at h3
            simp only [okT]
            omega
      refine q_asgX (ev_nm (ev_take (ev_var rfl) ev_int (by decide) (by decide))) fun n _ => ?_
      have hl := lenOf_le n
      refine q_asgI (ev_take (ev_var rfl) (ev_add (ev_dget (ev_var rfl) (ev_var rfl)) ev_int) (by omega) (by omega)) fun st s0 s1 => ?_
      refine s_ret (P := dTree K d) ((ev_tup (Ps := [Dd K (.str "part"), Dd K (.str (nmS n)), Dd K (.int st), dIn (st + 0) (st + (lenOf n - st + 1))]) (ea_cons ev_str (ea_cons (ev_var rfl) (ea_cons (ev_var rfl) (ea_cons (ev_addIn (ev_var rfl) (ev_take (ev_var rfl) (ev_add (ev_sub (ev_dget (ev_var rfl) (ev_var rfl)) (ev_var rfl)) ev_int) (by omega) (by omega))) ea_nil)))) (by simp only [List.length_cons, List.length_nil]; omega)).imp fun v H ⟨b, vs, e, hq, hall⟩ => ?_) fin
      subst e
      cases hall with
      | cons h1 t =>
        cases t with
        | cons h2 t =>
          cases t with
          | cons h3 t =>
            cases t with
            | cons h4 t =>
              cases t
              obtain ⟨i, rfl, h5, h6⟩ := h4
              exact ⟨.part n st i, ⟨s0, by omega, by omega⟩, .tup hq (.cons h1 (.cons h2 (.cons h3 (.cons (.int i) .nil))))⟩
    · have hd0 : ∃ q : Nat, d = q + 1 := by
        cases d with
        | zero => exact absurd hb (by simp)
        | succ q2 => exact ⟨q2, rfl⟩
      obtain ⟨q', rfl⟩ := hd0
      have e1 : (((q' + 1 : Nat) : Int) - 1) = (q' : Int) := by omega
      have dec : ∀ {δ : Dl (.pool a)}, δ[1]? = some (some (Dd K (.int ((q' + 1 : Nat) : Int)))) → Ev K (tOp (rI0 fun i j => .int (i - j)) (tVar 1) (tC (.int 1))) δ [] (Dd K (.int q')) := fun h => e1 ▸ ev_sub (ev_var h) ev_int
      refine q_asgX (ev_clip (ev_var rfl) (dec rfl) (ev_var rfl) (by omega) (by omega)) fun t1 ht1 => ?_
      refine q_if (et_of (ev_lt (ev_var rfl) ev_int)) (fun _ => ?_) (fun _ => ?_)
      · refine s_ret (P := dTree K (q' + 1)) ((ev_tup (Ps := [Dd K (.str "sum"), Dd K (td t1), dTree K q']) (ea_cons ev_str (ea_cons (ev_var rfl) (ea_cons (ev_clip (ev_var rfl) (dec rfl) (ev_var rfl) (by omega) (by omega)) ea_nil))) (by simp only [List.length_cons, List.length_nil]; omega)).imp fun v H ⟨b, vs, e, hq, hall⟩ => ?_) fin
        subst e
        cases hall with
        | cons h1 t =>
          cases t with
          | cons h2 t =>
            cases t with
            | cons h3 t =>
              cases t
              obtain ⟨t2, h4, h5⟩ := h3
              exact ⟨.sum t1 t2, ⟨q', rfl, ht1, h4⟩, .tup hq (.cons h1 (.cons h2 (.cons h5 .nil)))⟩
      refine q_if (et_of (ev_lt (ev_var rfl) ev_int)) (fun _ => ?_) (fun _ => ?_)
      · refine s_ret (P := dTree K (q' + 1)) ((ev_tup (Ps := [Dd K (.str "times"), Dd K (td t1), dIn 0 4]) (ea_cons ev_str (ea_cons (ev_var rfl) (ea_cons (ev_take (ev_var rfl) ev_int (by decide) (by decide)) ea_nil))) (by simp only [List.length_cons, List.length_nil]; omega)).imp fun v H ⟨b, vs, e, hq, hall⟩ => ?_) fin
        subst e
        cases hall with
        | cons h1 t =>
          cases t with
          | cons h2 t =>
            cases t with
            | cons h3 t =>
              cases t
              obtain ⟨k, rfl, h4, h5⟩ := h3
              exact ⟨.times t1 k, ⟨q', rfl, ht1, h4, by omega⟩, .tup hq (.cons h1 (.cons h2 (.cons (.int k) .nil)))⟩
      refine q_if (et_int (ev_var rfl) ev_int rfl) (fun _ => ?_) (fun _ => ?_)
      · refine s_ret (P := dTree K (q' + 1)) ((ev_tup (Ps := [Dd K (.str "gain"), Dd K (td t1), dIn (0 - 4) (9 - 4), dIn (1 + 0) (1 + 4)]) (ea_cons ev_str (ea_cons (ev_var rfl) (ea_cons (ev_subIn (ev_take (ev_var rfl) ev_int (by decide) (by decide)) ev_int) (ea_cons (ev_addIn ev_int (ev_take (ev_var rfl) ev_int (by decide) (by decide))) ea_nil)))) (by simp only [List.length_cons, List.length_nil]; omega)).imp fun v H ⟨b, vs, e, hq, hall⟩ => ?_) fin
        subst e
        cases hall with
        | cons h1 t =>
          cases t with
          | cons h2 t =>
            cases t with
            | cons h3 t =>
              cases t with
              | cons h4 t =>
                cases t
                obtain ⟨i, rfl, h5, h6⟩ := h3
                obtain ⟨j, rfl, h7, h8⟩ := h4
                exact ⟨.gain t1 i j, ⟨q', rfl, ht1, by omega, by omega, by omega, by omega⟩, .tup hq (.cons h1 (.cons h2 (.cons (.int i) (.cons (.int j) .nil))))⟩
      · refine s_ret (P := dTree K (q' + 1)) ((ev_tup (Ps := [Dd K (.str "cut"), Dd K (td t1), dIn 0 12, dIn 0 12]) (ea_cons ev_str (ea_cons (ev_var rfl) (ea_cons (ev_take (ev_var rfl) ev_int (by decide) (by decide)) (ea_cons (ev_take (ev_var rfl) ev_int (by decide) (by decide)) ea_nil)))) (by simp only [List.length_cons, List.length_nil]; omega)).imp fun v H ⟨b, vs, e, hq, hall⟩ => ?_) fin
        subst e
        cases hall with
        | cons h1 t =>
          cases t with
          | cons h2 t =>
            cases t with
            | cons h3 t =>
              cases t with
              | cons h4 t =>
                cases t
                obtain ⟨i, rfl, h5, h6⟩ := h3
                obtain ⟨j, rfl, h7, h8⟩ := h4
                exact ⟨.cut t1 i j, ⟨q', rfl, ht1, h5, by omega, h7, by omega⟩, .tup hq (.cons h1 (.cons h2 (.cons (.int i) (.cons (.int j) .nil))))⟩
end
end Cl

/-! part W13 -/
namespace Cl
open PySem L2
theorem okT_mono : ∀ (t : Tree) {d e : Nat}, d ≤ e → okT t d → okT t e
  | .sil n, _, _, _, h => h
  | .smp xs, _, _, _, h => h
  | .part n a b, _, _, _, h => h
  | .sum a b, d, e, hd, h => by
    simp only [okT] at h ⊢
    obtain ⟨q, rfl, h1, h2⟩ := h
    exact ⟨e - 1, by omega, okT_mono a (by omega) h1, okT_mono b (by omega) h2⟩
  | .times a k, d, e, hd, h => by
    simp only [okT] at h ⊢
    obtain ⟨q, rfl, h1, h2⟩ := h
    exact ⟨e - 1, by omega, okT_mono a (by omega) h1, h2⟩
  | .gain a t b, d, e, hd, h => by
    simp only [okT] at h ⊢
    obtain ⟨q, rfl, h1, h2⟩ := h
    exact ⟨e - 1, by omega, okT_mono a (by omega) h1, h2⟩
  | .cut a x y, d, e, hd, h => by
    simp only [okT] at h ⊢
    obtain ⟨q, rfl, h1, h2⟩ := h
    exact ⟨e - 1, by omega, okT_mono a (by omega) h1, h2⟩
theorem n_pieces : (("pieces" : Str) == "own_pieces") = false ∧ (("pieces" : Str) == "own_length") = false := by decide +kernel
section
variable {K : Frg} {C : Addr} {m : Mo} {δ : Dl m} {c : List PyData} {ta tb te : TE} {ps : List Piece} {E : XK} {D : Ends} {H0 : Hp} {tv bd : TS}
theorem ev_pieces (h : Ev K ta δ c (dClip K C ps)) : Ev K (tMeth C "pieces" (spPcs K C) [] E ta tNil) δ c (Dd K (.list (pds ps))) := fun σ H Q s q =>
  h σ H _ s fun v H1 l1 p => by
    obtain ⟨x, dx, u, e, hx, hu⟩ := id p
    subst e
    have w := l1.wf s.wf
    refine ⟨x, dx, _, rfl, del_sub _ _ hx, lk_no _ _ n_pieces.1 n_pieces.2, ps, .cons (up_clip _ H1 w p) .nil, fun l ys H' e hn hl hall => q _ H' (l1.trans (Le.of w e)) ?_⟩
    exact .lst (.inl (.inl (by rw [del_ne (w.ne hn)]; exact hl))) (dp_dels ((Le.of w e).wf w) (lf_pds ps) hall)
/-- x.pieces().clear() -/
theorem s_clr (h : Ev K ta δ c (dClip K C ps)) (k : S K tNext D δ c H0) : S K (tDrop (tBM0 K "list" rClear (tMeth C "pieces" (spPcs K C) [] E ta tNil))) D δ c H0 := fun σ H s l =>
  h σ H _ s fun v H1 l1 p => by
    obtain ⟨x, dx, u, e, hx, hu⟩ := id p
    subst e
    have w := l1.wf s.wf
    refine ⟨x, dx, _, rfl, del_sub _ _ hx, lk_no _ _ n_pieces.1 n_pieces.2, ps, .cons (up_clip _ H1 w p) .nil, fun b ys H' e hn hl hall => ⟨.inl ⟨rfl, ys, SqL.of hl⟩, b, ys, rfl, rfl, hl, ?_⟩⟩
    have l2 := l1.trans ((Le.of w e).mut (u := .lst []) w hn)
    exact k σ _ (s.mono l2) (l.trans l2.ex)
theorem q_clr (h : Ev K ta δ c (dClip K C ps)) (k : S K tv D δ c H0) : S K (tSeq (tDrop (tBM0 K "list" rClear (tMeth C "pieces" (spPcs K C) [] E ta tNil))) tv) D δ c H0 := s_seq (s_clr h (s_nx k))
theorem ev_cutK {a b : Int} (h : Ev K ta δ c (dClip K C ps)) (he : Ev K tb δ c (Dd K (.int b))) (hs : Ev K te δ c (Dd K (.int a))) (h0 : 0 ≤ a) (h1 : a ≤ b) (h2 : b ≤ total ps) (h3 : Cok ps) (h4 : Cok (cutL ps a b)) :
    Ev K (tMethK C "cut" (spCut K C) gvCut E ta (tCons tb (tCons te tNil))) δ c (dClip K C (cutL ps a b)) := fun σ H Q s q =>
  h σ H _ s fun v H1 l1 p => by
    obtain ⟨x, dx, u, e, hx, hu⟩ := id p
    subst e
    refine ⟨x, dx, _, rfl, del_sub _ _ hx, lk_no _ _ n_cut.1 n_cut.2, he σ H1 _ (s.mono l1) fun v2 H2 l2 p2 => hs σ H2 _ ((s.mono l1).mono l2) fun v3 H3 l3 p3 => ?_⟩
    have l := (l1.trans l2).trans l3
    have w := l.wf s.wf
    cases p2
    cases p3
    exact ⟨(ps, a, b), ⟨h0, h1, h2, h3, h4⟩, .cons (up_clip _ H3 w ((dClip K C ps).mono _ _ _ (l2.trans l3).ex p)) (.cons (.int a) (.cons (.int b) .nil)), fun v H4 e p => q v H4 (l.trans (Le.of w e)) (dn_clip v H4 ((Le.of w e).wf w) p)⟩
theorem ev_callQX {α β : Type} {As : α → List (De .non)} {pre : α → Prop} {R : α → De .non} {ok : β → Prop} {F F' : β → De m} {g : β → α} (h : Ev K ta δ c (dEx ok F)) (hp : ∀ x, ok x → pre (g x)) (up : ∀ x, UpA [F x] (As (g x))) (dn : ∀ x, Dn (R (g x)) (F' x)) :
    Ev K (tCall (spQ As pre R) [] E (tCons ta tNil)) δ c (dEx ok F') := fun σ H Q s q =>
  h σ H _ s fun v H1 l1 ⟨x, hx, p⟩ => ⟨g x, hp x hx, (up x).go (l1.wf s.wf) (.cons p .nil), fun v H2 e p => q v H2 (l1.trans (Le.of (l1.wf s.wf) e)) ⟨x, hx, dn x v H2 ((Le.of (l1.wf s.wf) e).wf (l1.wf s.wf)) p⟩⟩
theorem sum_sizesL {ps : List Piece} {j : Nat} (h : Cok ps) (hb : ∀ p, p ∈ ps → Ev K te ((δ.set j none).set j (some (Dd K (pd p)))) c (Dd K (.int (plen p)))) {tl : TE} (hl : Ev K tl δ c (Dd K (.list (pds ps)))) :
    Ev K (tCB (rSum K) (tCons (tLc (iList K tl) (gName j) tYes te [j]) tNil)) δ c (Dd K (.int (total ps))) := by
  rw [← sum_total]
  refine ev_sum (ev_lcL hl ?_ (lf_ids _) ?_ fun i d e hd he => ?_)
  · rw [pds_length]
    have := h.len
    omega
  · rw [pds_length]
    simp [ids]
  · obtain ⟨p, hp, rfl⟩ := pds_get hd
    have e2 : e = .int (plen p) := by
      unfold ids at he
      rw [List.getElem?_map, List.getElem?_map, hp] at he
      exact (Option.some.inj he).symm
    subst e2
    exact hb p (List.mem_of_getElem? hp)
end
section
variable {K : Frg} {D : Ends} {H0 : Hp} {tv bd : TS} {δ : Dl .non} {c : List PyData}
theorem s_forR {j : Nat} {tr : TA} {n : Int} {J : Dl .non} (h : EvA K tr δ c [Dd K (.int n)]) (hn : 0 ≤ n ∧ n ≤ 1000000) (u : Sub δ J)
    (hs : ∀ (i : Nat) H1, (i : Int) < n → S K bd { nx := fun σ H => DS K H σ J c ∧ Ls .non H1 H, rt := D.rt, bk := D.nx, ct := fun σ H => DS K H σ J c ∧ Ls .non H1 H } (J.set j (some (Dd K (.int i)))) c H1)
    (hd : S K tNext D J c H0) : S K (tFor (iRng1 tr) (gName j) bd) D δ c H0 := fun σ H s l =>
  h σ H _ s fun vs H1 l1 ps => by
    cases ps with
    | cons p t =>
      cases t
      cases p
      have l2 : Ls .non H0 H1 := l.trans l1.ex
      refine ⟨n, rfl, by omega, by omega, for_range (lo := 0) (n := n.toNat) (fun _ σ H => DS K H σ J c ∧ Ls .non H1 H) ⟨(s.mono l1).sub u, Same.refl _⟩ (fun i σ' H' hi ⟨s', l3⟩ => ?_) (fun σ' H' ⟨s', l3⟩ => hd σ' H' s' (l2.trans l3))⟩
      rw [Int.zero_add]
      exact hs i H1 (by omega) _ H' (s'.set j (.int _)) l3
theorem same_pool {H H' : Hp} {l : Addr} (e : Same H H') (h : H l = none) : Same H (del (.pool l) H') := fun b o hb => by
  rw [del_ne (m := .pool l)]
  · exact e b o hb
  · intro z
    cases z
    rw [h] at hb
    cases hb
theorem DS.down {H H' : Hp} {l : Addr} {σ : St} {jl : List (Option PyData)} (s : DS K (m := .non) H σ (dls K jl) []) (e : Same H H') (h : H l = none) (hp : PoolAt H' l) : DS K (m := .pool l) H' σ (dls K jl) [] where
  wf := hp
  len := by
    have := s.len
    simp only [dls, List.length_map] at this ⊢
    exact this
  at_ := fun i P q => by
    unfold dls at q
    rw [List.getElem?_map] at q
    cases q1 : jl[i]? with
    | none => rw [q1] at q; cases q
    | some o =>
      rw [q1] at q
      cases o with
      | none => cases q
      | some d =>
        cases q
        obtain ⟨v, e2, p⟩ := s.at_ i (Dd K d) (by unfold dls; rw [List.getElem?_map, q1]; rfl)
        refine ⟨v, e2, ?_⟩
        have p : Dp K (del .non H) v d := p
        rw [del_non] at p
        exact Dp.mono (same_pool e h) _ _ p
  ct := fun a e => nomatch e
theorem DS.up {H : Hp} {l : Addr} {σ : St} {jl : List (Option PyData)} (s : DS K (m := .pool l) H σ (dls K jl) []) : DS K (m := .non) H σ (dls K jl) [] where
  wf := trivial
  len := by
    have := s.len
    simp only [dls, List.length_map] at this ⊢
    exact this
  at_ := fun i P q => by
    unfold dls at q
    rw [List.getElem?_map] at q
    cases q1 : jl[i]? with
    | none => rw [q1] at q; cases q
    | some o =>
      rw [q1] at q
      cases o with
      | none => cases q
      | some d =>
        cases q
        obtain ⟨v, e2, p⟩ := s.at_ i (Dd K d) (by unfold dls; rw [List.getElem?_map, q1]; rfl)
        refine ⟨v, e2, ?_⟩
        show Dp K (del .non H) v d
        rw [del_non]
        exact Dp.mono del_sub _ _ p
  ct := fun a e => nomatch e
theorem same_back {H0 H : Hp} {l : Addr} (ls : Ls (.pool l) H0 H) (h : H0 l = none) : Ls .non H0 H := by
  unfold Ls
  rw [del_non, del_non]
  intro b o hb
  exact del_sub _ _ (ls b o (by
    rw [del_ne (m := .pool l)]
    · exact hb
    · intro z
      cases z
      rw [h] at hb
      cases hb))
theorem q_pool {E : XK} {jl : List (Option PyData)} {i : Nat} {ns : List Int} {k : Int} (e0 : jl[0]? = some (some (.list (ids ns)))) (e1 : jl[1]? = some (some (.int k))) (hn : ns.length ≤ 63) (h0 : 0 ≤ k) (h1 : k ≤ 63)
    (kk : ∀ l, H0 l = none → S K (m := .pool l) tv D ((dls K jl).set i (some (dAt l))) [] H0) : S K (m := .non) (tSeq (tAsg (tCall (spPool K) [] E (tCons (tVar 0) (tCons (tVar 1) tNil))) (gName i)) tv) D (dls K jl) [] H0 := fun σ H s l => by
  obtain ⟨v0, f0, p0⟩ := s.at_ 0 (Dd K (.list (ids ns))) (by unfold dls; rw [List.getElem?_map, e0]; rfl)
  obtain ⟨v1, f1, p1⟩ := s.at_ 1 (Dd K (.int k)) (by unfold dls; rw [List.getElem?_map, e1]; rfl)
  refine ⟨v0, f0, v1, f1, ns, k, .cons p0 (.cons p1 .nil), hn, h0, h1, fun a H' e ha hp => ?_⟩
  have hs : Same H0 H := ls_non l
  have ha0 : H0 a = none := by
    cases q : H0 a with
    | none => rfl
    | some o => rw [hs _ _ q] at ha; cases ha
  exact kk a ha0 _ H' ((s.down e ha hp).set i rfl) (del_same (hs.trans e))
theorem s_endP {l : Addr} {δ : Dl (.pool l)} {jl : List (Option PyData)} {bk ct : St → Hp → Prop} {rt : VK} (hl : H0 l = none) (u : Sub δ (dls K jl)) :
    S K (m := .pool l) tNext { nx := fun σ H => DS K (m := .non) H σ (dls K jl) [] ∧ Ls .non H0 H, rt := rt, bk := bk, ct := ct } δ [] H0 := fun σ H s ls => ⟨(s.sub u).up, same_back ls hl⟩
end
theorem eqv_lt (xs ys : List Piece) : PyData.eqv (.list (pds xs)) (.list (pds ys)) = PyData.eqv (pt xs) (pt ys) := by simp only [pt, PyData.eqv]
theorem sEq_bb (b : Bool) : (!sEq (.bool b) (.bool b)) = false := by cases b <;> rfl
section
variable {P : Program} {w : World} {K : Frg} {mg : Str → Option Value} {base : Heap}
def spLaw (K : Frg) : Sp := fun vs H Q _ => ∃ (a : Addr) (ns : List Int), vs = [.ref a] ∧ SqL K H a (ns.map V.int) ∧ ns.length ≤ 63 ∧ ∀ H', Q (.bl true) H'
theorem ok_law (T : Tx K mg) {f : Addr} {fd : FuncData} (F : Fun K "law" "law" s_law f fd) : FnOk P w K mg base CX0 65 f fd ["_law_script"] (spLaw K) := by
  have G_law_pool := ok_law_pool (P := P) (w := w) (base := base) T
  have G_law_take := ok_law_take (P := P) (w := w) (base := base) T
  have G_law_clip := ok_law_clip (P := P) (w := w) (base := base) T 6
  have G_law_made := ok_law_made (P := P) (w := w) (base := base) T 6
  have G_law_pieces := ok_law_pieces (P := P) (w := w) (base := base) T 6
  have G_law_size := ok_law_size (P := P) (w := w) (base := base) T 7
  have G_law_stretch := ok_law_stretch (P := P) (w := w) (base := base) T 7
  have G_c_pieces := ok_c_pieces (P := P) (w := w) (base := base) T
  have G_c_eq := ok_c_eq (P := P) (w := w) (base := base) T
  have G_c_cut := ok_c_cut (P := P) (w := w) (base := base) T
  have G_c_silence := ok_c_silence (P := P) (w := w) (base := base) T
  have G_c_part := ok_c_part (P := P) (w := w) (base := base) T
  have G_c_add := ok_c_add (P := P) (w := w) (base := base) T
  have G_len := ok_c_length (P := P) (w := w) (base := base) T
  refine F.ok sc_law (fun vs H Q E h => ?_) (fun cdv A outer s H vs Q E hr h => ?_)
  · obtain ⟨a, ns, rfl, _⟩ := h
    rfl
  obtain ⟨a, ns, rfl, hS, hn, q⟩ := h
  refine ⟨_, (pss_cons (ps_for PassesOwn.never rfl (pi_range1 rfl T.n_range (pa_cons (pe_callB (call_max2 rfl) (by rfl) T.n_max (by decide +kernel) (pa_cons pe_int (pa_cons (pe_callB (call_min2 rfl) (by rfl) T.n_min (by decide +kernel) (pa_cons pe_int (pa_cons (pe_callB call_len_seq (by rfl) T.n_len (by decide +kernel) (pa_cons (pv 0) pa_nil)) pa_nil))) pa_nil))) pa_nil)) (pg_name (i := 1) sc_law.nd rfl (Or.inl rfl)) (pss_cons (ps_set (i := 2) sc_law.nd rfl (Or.inl rfl) (pe_call G_law_pool (hr.mono (by omega)) rfl T.law_pool.m T.law_pool.F.kp T.law_pool.b .nil pass0 (pa_cons (pv 0) (pa_cons (pv 1) pa_nil))))
      (pss_cons (ps_set (i := 3) sc_law.nd rfl (Or.inl rfl) (pe_call G_law_clip (hr.mono (by omega)) rfl T.law_clip.m T.law_clip.F.kp T.law_clip.b .nil pass0 (pa_cons (pv 2) (pa_cons pe_int (pa_cons (pe_disp (pps_cons pe_str pe_int (pps_cons pe_str pe_int pps_nil)) (by rfl) (by rfl) (fun z => by cases z) (by decide)) pa_nil)))))
      (pss_cons (ps_set (i := 4) sc_law.nd rfl (Or.inl rfl) (pe_call G_law_made (hr.mono (by omega)) rfl T.law_made.m T.law_made.F.kp T.law_made.b .nil pass0 (pa_cons (pv 3) pa_nil)))
      (pss_cons (ps_set (i := 5) sc_law.nd rfl (Or.inl rfl) (pe_callTy call_list_of (by rfl) T.n_list (by decide +kernel) (pa_cons (pe_call G_law_pieces (hr.mono (by omega)) rfl T.law_pieces.m T.law_pieces.F.kp T.law_pieces.b .nil pass0 (pa_cons (pv 3) pa_nil)) pa_nil)))
      (pss_cons (ps_if (PW.pt (pw_or (pt_cmpR (op_neD hr.units) (pe_meth0 (pv 4) T.cl T.h_pieces G_c_pieces (hr.mono (by omega)) T.c_pieces.b .nil pass0) (pv 5) (nomark _)) (pw_or1 (pt_cmpR op_ne (pe_prop (pv 4) T.cl T.p_length G_len (hr.mono (by omega)) T.c_length.b .nil pass0 rfl) (pe_callB (cr_sum rfl) (by rfl) T.n_sum (by decide +kernel) (pa_cons (pe_lc (own := [("_law_piece", 6)]) (g := gName 6) (tt := tYes) (by rfl) sc_law.nd (pi_list (pv 5)) (blkOk_by (own := [("_law_piece", 6)]) (N := ["_law_script", "_law_k", "_law_pool_here", "_law_tree", "_law_clip_here", "_law_due", "_law_piece", "_law_other", "_law_start_here", "_law_end_here"]) (sc := defScope s_law) (by decide +kernel)) (fun _ _ _ _ _ => pg_name (i := 6) sc_law.nd rfl (Or.inl rfl)) (fun _ _ _ _ _ => pts_nil) (fun _ _ _ _ _ => (pe_call G_law_size (hr.mono (by omega)) rfl T.law_size.m T.law_size.F.kp T.law_size.b .nil pass0 (pa_cons (pv 6) pa_nil)))) pa_nil)) (nomark _))))) (pss_one (ps_ret pe_bl)) pss_nil)
      (pss_cons (ps_expr (pe_bm0 PySem.F.plainAttrs_list PySem.F.slot_list_clear PySem.F.type_list_clear mt_clear (pe_meth0 (pv 4) T.cl T.h_pieces G_c_pieces (hr.mono (by omega)) T.c_pieces.b .nil pass0)))
      (pss_cons (ps_set (i := 7) sc_law.nd rfl (Or.inl rfl) (pe_call G_law_made (hr.mono (by omega)) rfl T.law_made.m T.law_made.F.kp T.law_made.b .nil pass0 (pa_cons (pe_call G_law_clip (hr.mono (by omega)) rfl T.law_clip.m T.law_clip.F.kp T.law_clip.b .nil pass0 (pa_cons (pv 2) (pa_cons pe_int (pa_cons (pe_disp (pps_cons pe_str pe_int (pps_cons pe_str pe_int pps_nil)) (by rfl) (by rfl) (fun z => by cases z) (by decide)) pa_nil)))) pa_nil)))
      (pss_cons (ps_if (PW.pt (pw_or (pt_cmpR (op_neD hr.units) (pe_meth0 (pv 4) T.cl T.h_pieces G_c_pieces (hr.mono (by omega)) T.c_pieces.b .nil pass0) (pv 5) (nomark _)) (pw_or1 (pt_cmpR op_ne (pe_cmpR (op_ownEq G_c_eq (hr.mono (by omega)) T.c_eq.b pass0 T.a_eq T.i_eq) (pv 4) (pv 7) (nomark _)) (pe_cmpR (op_eqD hr.units) (pv 5) (pe_meth0 (pv 7) T.cl T.h_pieces G_c_pieces (hr.mono (by omega)) T.c_pieces.b .nil pass0) (nomark _)) (nomark _))))) (pss_one (ps_ret pe_bl)) pss_nil)
      (pss_cons (ps_set (i := 8) sc_law.nd rfl (Or.inl rfl) (pe_call G_law_take (hr.mono (by omega)) rfl T.law_take.m T.law_take.F.kp T.law_take.b .nil pass0 (pa_cons (pv 2) (pa_cons (pe_op op_add (pe_prop (pv 4) T.cl T.p_length G_len (hr.mono (by omega)) T.c_length.b .nil pass0 rfl) pe_int) pa_nil))))
      (pss_cons (ps_set (i := 9) sc_law.nd rfl (Or.inl rfl) (pe_op op_add (pv 8) (pe_call G_law_take (hr.mono (by omega)) rfl T.law_take.m T.law_take.F.kp T.law_take.b .nil pass0 (pa_cons (pv 2) (pa_cons (pe_op op_add (pe_op op_sub (pe_prop (pv 4) T.cl T.p_length G_len (hr.mono (by omega)) T.c_length.b .nil pass0 rfl) (pv 8)) pe_int) pa_nil)))))
      (pss_one (ps_if (pt_cmpR (op_neD hr.units) (pe_meth0 (pe_methK (pv 4) T.cl T.h_cut G_c_cut (hr.mono (by omega)) T.kb_cut pass0 (pk_cons (pv 9) (pk_cons (pv 8) pk_nil))) T.cl T.h_pieces G_c_pieces (hr.mono (by omega)) T.c_pieces.b .nil pass0) (pe_callTy call_list_of (by rfl) T.n_list (by decide +kernel) (pa_cons (pe_call G_law_stretch (hr.mono (by omega)) rfl T.law_stretch.m T.law_stretch.F.kp T.law_stretch.b .nil pass0 (pa_cons (pe_callTy call_tuple_of (by rfl) T.n_tuple (by decide +kernel) (pa_cons (pv 5) pa_nil)) (pa_cons (pv 8) (pa_cons (pv 9) pa_nil)))) pa_nil)) (nomark _)) (pss_one (ps_ret pe_bl)) pss_nil)))))))))))))
      (pss_one (ps_ret (pe_and (pe_cmpR (op_eqD hr.units) (pe_meth0 (pe_static (by rfl) T.mgC T.rd T.s_silence G_c_silence (hr.mono (by omega)) T.c_silence.b pass0 (pa_cons pe_int pa_nil)) T.cl T.h_pieces G_c_pieces (hr.mono (by omega)) T.c_pieces.b .nil pass0) (pe_lst pa_nil) (nomark _)) (pe_one (pe_cmpR op_eq (pe_prop (pe_op (op_own G_c_add (hr.mono (by omega)) T.c_add.b pass0 T.sf (dn_add T.a_add) T.i_add) (pe_static (by rfl) T.mgC T.rd T.s_part G_c_part (hr.mono (by omega)) T.c_part.b pass0 (pa_cons pe_str (pa_cons pe_int (pa_cons pe_int pa_nil)))) (pe_static (by rfl) T.mgC T.rd T.s_part G_c_part (hr.mono (by omega)) T.c_part.b pass0 (pa_cons pe_str (pa_cons pe_int (pa_cons pe_int pa_nil))))) T.cl T.p_length G_len (hr.mono (by omega)) T.c_length.b .nil pass0 rfl) pe_int (nomark _))))))), ?_⟩
  refine S.go (K := K) (m := .non) (δ := dls K (startD ["_law_script", "_law_k", "_law_pool_here", "_law_tree", "_law_clip_here", "_law_due", "_law_piece", "_law_other", "_law_start_here", "_law_end_here"] [.list (ids ns)])) (c := []) (H0 := H) ?_ (ds_start (.cons (.lst hS (DpAll.of_ints ns)) .nil)) (Same.refl _)
  refine s_seq (s_forR (J := dls K [some (.list (ids ns)), none, none, none, none, none, none, none, none, none]) (n := max 1 (min 12 ((ids ns).length : Int))) (ea_cons (ev_max2 ev_int (ev_min2 ev_int (ev_lenL (ev_var rfl)))) ea_nil) ⟨by omega, by omega⟩ (Sub.refl _) (fun i H1 hi => ?_) (s_nx ?_))
  · refine q_pool (jl := [some (.list (ids ns)), some (.int i), none, none, none, none, none, none, none, none]) (i := 2) (ns := ns) (k := i) rfl rfl hn (by omega) (by omega) fun l hl => ?_
    refine q_asgX (ev_clip (d := 5) (ev_var rfl) ev_int ev_disp (by omega) (by omega)) fun t ht => ?_
    have hg := pcs_good t 5 ht
    have ct := hg.cok (by omega)
    have ht := ct.tot
    have hnn := total_nn ct.ok
    refine q_asg (P := dClip K T.C (pcs t)) (ev_callQ (Ps := [Dd K (td t)]) t (ea_cons (ev_var rfl) ea_nil) ⟨5, rfl, ‹_›, by omega⟩ up1d dn_clip) ?_
    refine q_asg (P := Dd K (.list (pds (pcs t)))) (ev_listT (ev_call (ds := [td t]) (ead_cons (ev_var rfl) ead_nil) ⟨t, rfl, ⟨5, rfl, ‹_›, by omega⟩, rfl⟩ (lf_pt _))) ?_
    have hsh := sh_pl ct.lim (by omega)
    refine q_ifF ((et_or (a := false) (b := false) ((et_of (ev_neD (ev_pieces (ev_var rfl)) (ev_var rfl) hsh hsh)).to (by rw [eqv_pl]; rfl)) fun _ => (et_of (ev_ne (ev_prop (ev_var rfl))
      (sum_sizesL ct (fun p hp => ev_call (ds := [pd p]) (ead_cons (ev_var rfl) ead_nil) ⟨p, rfl, okL_mem ct.ok hp, ⟨6, rfl, limL_mem ct.l50 hp⟩, by have := plen_mem ct.ok hp; omega, rfl⟩ rfl) (ev_var rfl)) rfl)).to (by simp [sEq])).to rfl) ?_
    refine q_clr (ev_var rfl) ?_
    refine q_asgX (ok := fun t => okT t 3) (F := fun t => dClip K T.C (pcs t)) (ev_callQX (g := fun t => t) (ev_clip (d := 3) (ev_var rfl) ev_int ev_disp (by omega) (by omega)) (fun t2 h2 => ⟨5, rfl, okT_mono t2 (by omega) h2, by omega⟩) (fun _ => up1d) (fun _ => dn_clip)) fun t2 ht2 => ?_
    have ct2 := (pcs_good t2 3 ht2).cok (by omega)
    refine q_ifF ((et_or (a := false) (b := false) ((et_of (ev_neD (ev_pieces (ev_var rfl)) (ev_var rfl) hsh hsh)).to (by rw [eqv_pl]; rfl)) fun _ => (et_of (ev_ne (ev_ownQ (xs := pcs t) (ys := pcs t2) (pcs t, pcs t2) (ev_var rfl) (ev_var rfl) ⟨ct, ct2⟩ up2c (dn_d rfl))
      (ev_eqD (ev_var rfl) (ev_pieces (ev_var rfl)) hsh (sh_pl ct2.lim (by omega))) rfl)).to (by rw [eqv_lt]; exact sEq_bb _)).to rfl) ?_
    refine q_asgI (ev_take (ev_var rfl) (ev_add (ev_prop (ev_var rfl)) ev_int) (by omega) (by omega)) fun st s0 s1 => ?_
    refine q_asgI (ev_addIn (ev_var rfl) (ev_take (ev_var rfl) (ev_add (ev_sub (ev_prop (ev_var rfl)) (ev_var rfl)) ev_int) (by omega) (by omega))) fun en e0 e1 => ?_
    have c3 : Cok (cutL (pcs t) st en) := (hg.cut (s := st) (e := en) s0 (by omega) (by omega)).cok (by omega)
    refine s_ifF ((et_of (ev_neD (ev_pieces (ev_cutK (ps := pcs t) (a := st) (b := en) (ev_var rfl) (ev_var rfl) (ev_var rfl) s0 (by omega) (by omega) ct c3))
      (ev_listT (ev_call (ds := [pt (pcs t), .int st, .int en]) (d := pt (cutL (pcs t) st en)) (ead_cons (ev_tupL (ev_var rfl)) (ead_cons (ev_var rfl) (ead_cons (ev_var rfl) ead_nil))) ⟨pcs t, st, en, rfl, ct.ok, ⟨6, rfl, ct.l50⟩, by omega, by omega, by omega, by rw [str_eq ct.ok (by omega)]⟩ (lf_pt _))) (sh_pl c3.lim (by omega)) (sh_pl c3.lim (by omega)))).to (by rw [eqv_pl]; rfl)) ?_
    exact s_endP hl (sub_s (sub_n (sub_n (sub_n (sub_n (sub_n (sub_n (sub_n (sub_n (sub_n sub_nil))))))))))
  · have g1 : Gd 0 (pcs (.part true 0 3)) := pcs_good _ 0 ⟨by omega, by omega, by omega⟩
    have g2 : Gd 0 (pcs (.part true 3 5)) := pcs_good _ 0 ⟨by omega, by omega, by omega⟩
    have g0 : Gd 0 (pcs (.sil 0)) := pcs_good _ 0 ⟨by omega, by omega⟩
    have g3 : Cok (both (pcs (.part true 0 3)) (pcs (.part true 3 5))) := (g1.sum g2).cok (by omega)
    have et : total (both (pcs (.part true 0 3)) (pcs (.part true 3 5))) = 5 := by
      rw [both_total]
      simp [pcs, total, plen]
    have e0 : pcs (.sil 0) = [] := by simp [pcs]
    refine s_ret (P := Dd K (.bool (true && true))) (ev_andV ((ev_eqD (d := .list (pds (pcs (.sil 0)))) (e := .list []) (ev_pieces (ev_callQ (Ps := [Dd K (.int 0)]) (0 : Int) (ea_cons ev_int ea_nil) ⟨by omega, by omega, g0.cok (by omega)⟩ up1d dn_same)) (ev_lstD ead_nil) (sh_pl (g0.cok (by omega)).lim (by omega)) sh_nilL).imp fun v H p => ?_) fun _ => ((ev_eqI (i := 5) (j := 5) ((ev_prop (ev_ownQ (xs := pcs (.part true 0 3)) (ys := pcs (.part true 3 5)) (pcs (.part true 0 3), pcs (.part true 3 5))
      (ev_callQ (Ps := [Dd K (.str "a"), Dd K (.int 0), Dd K (.int 3)]) (true, 0, 3) (ea_cons ev_str (ea_cons ev_int (ea_cons ev_int ea_nil))) ⟨by decide, by decide, g1.cok (by omega)⟩ up3d dn_same)
      (ev_callQ (Ps := [Dd K (.str "a"), Dd K (.int 3), Dd K (.int 5)]) (true, 3, 5) (ea_cons ev_str (ea_cons ev_int (ea_cons ev_int ea_nil))) ⟨by decide, by decide, g2.cok (by omega)⟩ up3d dn_same)
      ⟨g1.cok (by omega), g2.cok (by omega), g3⟩ up2c dn_same)).imp fun v H p => by rw [et] at p; exact p) ev_int).imp fun v H p => p)) (fun v H' l w p => ?_)
    · rw [e0] at p
      exact p
    · cases p
      exact q H'
end
end Cl

/-! part W14 -/
namespace Cl
open PySem L2
theorem binds_dflt {K : Frg} {fd : FuncData} {ps : List Str} {T : Addr} {o : Obj} {u : Value} {n : Nat} (lT : K.lookup T = some o) (oT : o.data = .seq #[u] n) (h : ∀ us : List Value, us.length = ps.length → ∃ k, bindArgs fd ⟨us, []⟩ = seqItems? (.ref T) >>= k ∧ k (some #[u]) = pure (ps.zip us)) : Binds K fd ps [] := fun s us X hl => by
  rw [List.append_nil] at hl ⊢
  obtain ⟨k, e1, e2⟩ := h us hl
  refine BindsTo.of_looks fun M => ?_
  rw [e1]
  exact looks_items X lT oT (.of_pure e2)
theorem kb_of {K : Frg} {f : Addr} {fd : FuncData} (F : Fun K "cut" "Clip.cut" s_c_cut f fd) : KBinds K fd ["self", "start", "end"] ["end", "start"] gqCut gvCut where
  to := fun s us ws _ hl => by
    obtain ⟨oc, od, kV, doc, pm, an, cdv, ct, osl, rfl, lk, hcd⟩ := F.ex
    match us, ws, hl with
    | [x], [e, z], _ => exact .of_eq rfl
  rel := fun r rz => by
    cases r with
    | nil => cases rz <;> exact .nil
    | cons h t =>
      cases t with
      | cons _ _ => cases rz <;> exact .nil
      | nil =>
        cases rz with
        | nil => exact .nil
        | cons h1 t1 =>
          cases t1 with
          | nil => exact .nil
          | cons h2 t2 =>
            cases t2 with
            | nil => exact .cons h (.cons h2 (.cons h1 .nil))
            | cons _ _ => exact .nil

theorem all_mk {l : PySem.W.OpenLaw} {w : World} {K : Frg} {h : Heap} {mg : Str → Option Value} {fa : Addr} {C f1 f2 f3 f4 f5 f6 f7 f8 f9 f10 f11 f12 f13 f14 f15 f16 T16 f17 p17 f18 p18 f19 p19 f20 p20 f21 f22 f23 f24 f25 f26 f27 f28 f29 f30 f31 f32 f33 f34 f35 f36 f37 f38 : Addr} {od1 an1 od2 an2 od3 an3 od4 an4 od5 an5 od6 an6 od7 an7 od8 an8 od9 an9 od10 an10 od11 an11 od12 an12 od13 an13 od14 an14 od15 an15 od16 an16 od_d16 od17 an17 od18 an18 od19 an19 od20 an20 od21 an21 od22 an22 od23 an23 od24 an24 od25 an25 od26 an26 od27 an27 od28 an28 od29 an29 od30 an30 od31 an31 od32 an32 od33 an33 od34 an34 od35 an35 od36 an36 od37 an37 od38 an38 : Option Addr} {sl1 sl2 sl3 sl4 sl5 sl6 sl7 sl8 sl9 sl10 sl11 sl12 sl13 sl14 sl15 sl16 sl_d16 sl17 sl18 sl19 sl20 sl21 sl22 sl23 sl24 sl25 sl26 sl27 sl28 sl29 sl30 sl31 sl32 sl33 sl34 sl35 sl36 sl37 sl38 : Array (Option Value)} {oc1 kV1 dc1 pm1 cd1 ct1 oc2 kV2 dc2 pm2 cd2 ct2 oc3 kV3 dc3 pm3 cd3 ct3 oc4 kV4 dc4 pm4 cd4 ct4 oc5 kV5 dc5 pm5 cd5 ct5 oc6 kV6 dc6 pm6 cd6 ct6 oc7 kV7 dc7 pm7 cd7 ct7 oc8 kV8 dc8 pm8 cd8 ct8 oc9 kV9 dc9 pm9 cd9 ct9 oc10 kV10 dc10 pm10 cd10 ct10 oc11 kV11 dc11 pm11 cd11 ct11 oc12 kV12 dc12 pm12 cd12 ct12 oc13 kV13 dc13 pm13 cd13 ct13 oc14 kV14 dc14 pm14 cd14 ct14 oc15 kV15 dc15 pm15 cd15 ct15 oc16 kV16 dc16 pm16 cd16 ct16 od_oc16 wd16 oc17 kV17 dc17 pm17 cd17 ct17 oc18 kV18 dc18 pm18 cd18 ct18 oc19 kV19 dc19 pm19 cd19 ct19 oc20 kV20 dc20 pm20 cd20 ct20 oc21 kV21 dc21 pm21 cd21 ct21 oc22 kV22 dc22 pm22 cd22 ct22 oc23 kV23 dc23 pm23 cd23 ct23 oc24 kV24 dc24 pm24 cd24 ct24 oc25 kV25 dc25 pm25 cd25 ct25 oc26 kV26 dc26 pm26 cd26 ct26 oc27 kV27 dc27 pm27 cd27 ct27 oc28 kV28 dc28 pm28 cd28 ct28 oc29 kV29 dc29 pm29 cd29 ct29 oc30 kV30 dc30 pm30 cd30 ct30 oc31 kV31 dc31 pm31 cd31 ct31 oc32 kV32 dc32 pm32 cd32 ct32 oc33 kV33 dc33 pm33 cd33 ct33 oc34 kV34 dc34 pm34 cd34 ct34 oc35 kV35 dc35 pm35 cd35 ct35 oc36 kV36 dc36 pm36 cd36 ct36 oc37 kV37 dc37 pm37 cd37 ct37 oc38 kV38 dc38 pm38 cd38 ct38 : Value} {tk0 tk1 tk2 tk3 tk4 tkL : Tok} {u1 u2 : Option Value} {r17 r18 r19 r20 : List Value} {n_d16 : Nat} (X : K.In h) (G : h.Ns mainGlobals mg) (hfa : mg "law" = some (.ref fa))
    (aC : PySem.W.nsIn K mainGlobals "Clip" = some (some (.ref C)))
    (a1 : PySem.W.nsIn K mainGlobals "is_integer" = some (some (.ref f1)))
    (l1 : K.lookup f1 = some ⟨oc1, od1, .func (PySem.W.fnOf "is_integer" "is_integer" (defArgs s_is_integer) (defBody s_is_integer) (defScope s_is_integer) .none kV1 dc1 pm1 an1 cd1 ct1), sl1⟩)
    (c1 : PySem.W.codeIn K cd1 "is_integer" = true)
    (k1 : PySem.W.keepIn K (.ref f1) = true)
    (a2 : PySem.W.nsIn K mainGlobals "is_between" = some (some (.ref f2)))
    (l2 : K.lookup f2 = some ⟨oc2, od2, .func (PySem.W.fnOf "is_between" "is_between" (defArgs s_is_between) (defBody s_is_between) (defScope s_is_between) .none kV2 dc2 pm2 an2 cd2 ct2), sl2⟩)
    (c2 : PySem.W.codeIn K cd2 "is_between" = true)
    (k2 : PySem.W.keepIn K (.ref f2) = true)
    (a3 : PySem.W.nsIn K mainGlobals "is_row" = some (some (.ref f3)))
    (l3 : K.lookup f3 = some ⟨oc3, od3, .func (PySem.W.fnOf "is_row" "is_row" (defArgs s_is_row) (defBody s_is_row) (defScope s_is_row) .none kV3 dc3 pm3 an3 cd3 ct3), sl3⟩)
    (c3 : PySem.W.codeIn K cd3 "is_row" = true)
    (k3 : PySem.W.keepIn K (.ref f3) = true)
    (a4 : PySem.W.nsIn K mainGlobals "is_name" = some (some (.ref f4)))
    (l4 : K.lookup f4 = some ⟨oc4, od4, .func (PySem.W.fnOf "is_name" "is_name" (defArgs s_is_name) (defBody s_is_name) (defScope s_is_name) .none kV4 dc4 pm4 an4 cd4 ct4), sl4⟩)
    (c4 : PySem.W.codeIn K cd4 "is_name" = true)
    (k4 : PySem.W.keepIn K (.ref f4) = true)
    (a5 : PySem.W.nsIn K mainGlobals "require_sound" = some (some (.ref f5)))
    (l5 : K.lookup f5 = some ⟨oc5, od5, .func (PySem.W.fnOf "require_sound" "require_sound" (defArgs s_require_sound) (defBody s_require_sound) (defScope s_require_sound) .none kV5 dc5 pm5 an5 cd5 ct5), sl5⟩)
    (c5 : PySem.W.codeIn K cd5 "require_sound" = true)
    (k5 : PySem.W.keepIn K (.ref f5) = true)
    (a6 : PySem.W.nsIn K mainGlobals "piece_length" = some (some (.ref f6)))
    (l6 : K.lookup f6 = some ⟨oc6, od6, .func (PySem.W.fnOf "piece_length" "piece_length" (defArgs s_piece_length) (defBody s_piece_length) (defScope s_piece_length) .none kV6 dc6 pm6 an6 cd6 ct6), sl6⟩)
    (c6 : PySem.W.codeIn K cd6 "piece_length" = true)
    (k6 : PySem.W.keepIn K (.ref f6) = true)
    (a7 : PySem.W.nsIn K mainGlobals "total_length" = some (some (.ref f7)))
    (l7 : K.lookup f7 = some ⟨oc7, od7, .func (PySem.W.fnOf "total_length" "total_length" (defArgs s_total_length) (defBody s_total_length) (defScope s_total_length) .none kV7 dc7 pm7 an7 cd7 ct7), sl7⟩)
    (c7 : PySem.W.codeIn K cd7 "total_length" = true)
    (k7 : PySem.W.keepIn K (.ref f7) = true)
    (a8 : PySem.W.nsIn K mainGlobals "piece_count" = some (some (.ref f8)))
    (l8 : K.lookup f8 = some ⟨oc8, od8, .func (PySem.W.fnOf "piece_count" "piece_count" (defArgs s_piece_count) (defBody s_piece_count) (defScope s_piece_count) .none kV8 dc8 pm8 an8 cd8 ct8), sl8⟩)
    (c8 : PySem.W.codeIn K cd8 "piece_count" = true)
    (k8 : PySem.W.keepIn K (.ref f8) = true)
    (a9 : PySem.W.nsIn K mainGlobals "merged" = some (some (.ref f9)))
    (l9 : K.lookup f9 = some ⟨oc9, od9, .func (PySem.W.fnOf "merged" "merged" (defArgs s_merged) (defBody s_merged) (defScope s_merged) .none kV9 dc9 pm9 an9 cd9 ct9), sl9⟩)
    (c9 : PySem.W.codeIn K cd9 "merged" = true)
    (k9 : PySem.W.keepIn K (.ref f9) = true)
    (a10 : PySem.W.nsIn K mainGlobals "both_pieces" = some (some (.ref f10)))
    (l10 : K.lookup f10 = some ⟨oc10, od10, .func (PySem.W.fnOf "both_pieces" "both_pieces" (defArgs s_both_pieces) (defBody s_both_pieces) (defScope s_both_pieces) .none kV10 dc10 pm10 an10 cd10 ct10), sl10⟩)
    (c10 : PySem.W.codeIn K cd10 "both_pieces" = true)
    (k10 : PySem.W.keepIn K (.ref f10) = true)
    (a11 : PySem.W.nsIn K mainGlobals "repeated_pieces" = some (some (.ref f11)))
    (l11 : K.lookup f11 = some ⟨oc11, od11, .func (PySem.W.fnOf "repeated_pieces" "repeated_pieces" (defArgs s_repeated_pieces) (defBody s_repeated_pieces) (defScope s_repeated_pieces) .none kV11 dc11 pm11 an11 cd11 ct11), sl11⟩)
    (c11 : PySem.W.codeIn K cd11 "repeated_pieces" = true)
    (k11 : PySem.W.keepIn K (.ref f11) = true)
    (a12 : PySem.W.nsIn K mainGlobals "cut_repeat" = some (some (.ref f12)))
    (l12 : K.lookup f12 = some ⟨oc12, od12, .func (PySem.W.fnOf "cut_repeat" "cut_repeat" (defArgs s_cut_repeat) (defBody s_cut_repeat) (defScope s_cut_repeat) .none kV12 dc12 pm12 an12 cd12 ct12), sl12⟩)
    (c12 : PySem.W.codeIn K cd12 "cut_repeat" = true)
    (k12 : PySem.W.keepIn K (.ref f12) = true)
    (a13 : PySem.W.nsIn K mainGlobals "cut_piece" = some (some (.ref f13)))
    (l13 : K.lookup f13 = some ⟨oc13, od13, .func (PySem.W.fnOf "cut_piece" "cut_piece" (defArgs s_cut_piece) (defBody s_cut_piece) (defScope s_cut_piece) .none kV13 dc13 pm13 an13 cd13 ct13), sl13⟩)
    (c13 : PySem.W.codeIn K cd13 "cut_piece" = true)
    (k13 : PySem.W.keepIn K (.ref f13) = true)
    (a14 : PySem.W.nsIn K mainGlobals "cut_pieces" = some (some (.ref f14)))
    (l14 : K.lookup f14 = some ⟨oc14, od14, .func (PySem.W.fnOf "cut_pieces" "cut_pieces" (defArgs s_cut_pieces) (defBody s_cut_pieces) (defScope s_cut_pieces) .none kV14 dc14 pm14 an14 cd14 ct14), sl14⟩)
    (c14 : PySem.W.codeIn K cd14 "cut_pieces" = true)
    (k14 : PySem.W.keepIn K (.ref f14) = true)
    (a15 : PySem.W.nsIn K mainGlobals "gained_pieces" = some (some (.ref f15)))
    (l15 : K.lookup f15 = some ⟨oc15, od15, .func (PySem.W.fnOf "gained_pieces" "gained_pieces" (defArgs s_gained_pieces) (defBody s_gained_pieces) (defScope s_gained_pieces) .none kV15 dc15 pm15 an15 cd15 ct15), sl15⟩)
    (c15 : PySem.W.codeIn K cd15 "gained_pieces" = true)
    (k15 : PySem.W.keepIn K (.ref f15) = true)
    (a16 : PySem.W.findIn K (.ref C) "__init__" = some (some (.ref f16)))
    (i16 : PySem.W.isFn K (.ref f16) = true)
    (l16 : K.lookup f16 = some ⟨oc16, od16, .func (PySem.W.fnOf "__init__" "Clip.__init__" (defArgs s_c_init) (defBody s_c_init) (defScope s_c_init) (.ref T16) kV16 dc16 pm16 an16 cd16 ct16), sl16⟩)
    (d16 : K.lookup T16 = some ⟨od_oc16, od_d16, .seq #[wd16] n_d16, sl_d16⟩)
    (c16 : PySem.W.codeIn K cd16 "Clip.__init__" = true)
    (k16 : PySem.W.keepIn K (.ref f16) = true)
    (s17 : PySem.W.findCls K (.ref C) (.type "type") "part" = some (.get (.builtin "staticmethod.__get__") (.ref p17) .none (.ref C)))
    (q17 : PySem.W.recIn K p17 "staticmethod" = some (.ref f17 :: r17))
    (l17 : K.lookup f17 = some ⟨oc17, od17, .func (PySem.W.fnOf "part" "Clip.part" (defArgs s_c_part) (defBody s_c_part) (defScope s_c_part) .none kV17 dc17 pm17 an17 cd17 ct17), sl17⟩)
    (c17 : PySem.W.codeIn K cd17 "Clip.part" = true)
    (k17 : PySem.W.keepIn K (.ref f17) = true)
    (s18 : PySem.W.findCls K (.ref C) (.type "type") "silence" = some (.get (.builtin "staticmethod.__get__") (.ref p18) .none (.ref C)))
    (q18 : PySem.W.recIn K p18 "staticmethod" = some (.ref f18 :: r18))
    (l18 : K.lookup f18 = some ⟨oc18, od18, .func (PySem.W.fnOf "silence" "Clip.silence" (defArgs s_c_silence) (defBody s_c_silence) (defScope s_c_silence) .none kV18 dc18 pm18 an18 cd18 ct18), sl18⟩)
    (c18 : PySem.W.codeIn K cd18 "Clip.silence" = true)
    (k18 : PySem.W.keepIn K (.ref f18) = true)
    (s19 : PySem.W.findCls K (.ref C) (.type "type") "samples" = some (.get (.builtin "staticmethod.__get__") (.ref p19) .none (.ref C)))
    (q19 : PySem.W.recIn K p19 "staticmethod" = some (.ref f19 :: r19))
    (l19 : K.lookup f19 = some ⟨oc19, od19, .func (PySem.W.fnOf "samples" "Clip.samples" (defArgs s_c_samples) (defBody s_c_samples) (defScope s_c_samples) .none kV19 dc19 pm19 an19 cd19 ct19), sl19⟩)
    (c19 : PySem.W.codeIn K cd19 "Clip.samples" = true)
    (k19 : PySem.W.keepIn K (.ref f19) = true)
    (a20 : PySem.W.findIn K (.ref C) "length" = some (some (.ref p20)))
    (g20 : PySem.W.specialIn K (.ref p20) "__get__" = some (some (.builtin "property.__get__")))
    (t20 : PySem.W.takesIn K (.ref p20) = some true)
    (q20 : PySem.W.recIn K p20 "property" = some (.ref f20 :: r20))
    (l20 : K.lookup f20 = some ⟨oc20, od20, .func (PySem.W.fnOf "length" "Clip.length" (defArgs s_c_length) (defBody s_c_length) (defScope s_c_length) .none kV20 dc20 pm20 an20 cd20 ct20), sl20⟩)
    (c20 : PySem.W.codeIn K cd20 "Clip.length" = true)
    (k20 : PySem.W.keepIn K (.ref f20) = true)
    (a21 : PySem.W.findIn K (.ref C) "pieces" = some (some (.ref f21)))
    (i21 : PySem.W.isFn K (.ref f21) = true)
    (l21 : K.lookup f21 = some ⟨oc21, od21, .func (PySem.W.fnOf "pieces" "Clip.pieces" (defArgs s_c_pieces) (defBody s_c_pieces) (defScope s_c_pieces) .none kV21 dc21 pm21 an21 cd21 ct21), sl21⟩)
    (c21 : PySem.W.codeIn K cd21 "Clip.pieces" = true)
    (k21 : PySem.W.keepIn K (.ref f21) = true)
    (a22 : PySem.W.findIn K (.ref C) "require_stretch" = some (some (.ref f22)))
    (i22 : PySem.W.isFn K (.ref f22) = true)
    (l22 : K.lookup f22 = some ⟨oc22, od22, .func (PySem.W.fnOf "require_stretch" "Clip.require_stretch" (defArgs s_c_require_stretch) (defBody s_c_require_stretch) (defScope s_c_require_stretch) .none kV22 dc22 pm22 an22 cd22 ct22), sl22⟩)
    (c22 : PySem.W.codeIn K cd22 "Clip.require_stretch" = true)
    (k22 : PySem.W.keepIn K (.ref f22) = true)
    (a23 : PySem.W.findIn K (.ref C) "cut" = some (some (.ref f23)))
    (i23 : PySem.W.isFn K (.ref f23) = true)
    (l23 : K.lookup f23 = some ⟨oc23, od23, .func (PySem.W.fnOf "cut" "Clip.cut" (defArgs s_c_cut) (defBody s_c_cut) (defScope s_c_cut) .none kV23 dc23 pm23 an23 cd23 ct23), sl23⟩)
    (c23 : PySem.W.codeIn K cd23 "Clip.cut" = true)
    (k23 : PySem.W.keepIn K (.ref f23) = true)
    (a24 : PySem.W.findIn K (.ref C) "gained" = some (some (.ref f24)))
    (i24 : PySem.W.isFn K (.ref f24) = true)
    (l24 : K.lookup f24 = some ⟨oc24, od24, .func (PySem.W.fnOf "gained" "Clip.gained" (defArgs s_c_gained) (defBody s_c_gained) (defScope s_c_gained) .none kV24 dc24 pm24 an24 cd24 ct24), sl24⟩)
    (c24 : PySem.W.codeIn K cd24 "Clip.gained" = true)
    (k24 : PySem.W.keepIn K (.ref f24) = true)
    (a25 : PySem.W.findIn K (.ref C) "__add__" = some (some (.ref f25)))
    (i25 : PySem.W.isFn K (.ref f25) = true)
    (l25 : K.lookup f25 = some ⟨oc25, od25, .func (PySem.W.fnOf "__add__" "Clip.__add__" (defArgs s_c_add) (defBody s_c_add) (defScope s_c_add) .none kV25 dc25 pm25 an25 cd25 ct25), sl25⟩)
    (c25 : PySem.W.codeIn K cd25 "Clip.__add__" = true)
    (k25 : PySem.W.keepIn K (.ref f25) = true)
    (a26 : PySem.W.findIn K (.ref C) "__mul__" = some (some (.ref f26)))
    (i26 : PySem.W.isFn K (.ref f26) = true)
    (l26 : K.lookup f26 = some ⟨oc26, od26, .func (PySem.W.fnOf "__mul__" "Clip.__mul__" (defArgs s_c_mul) (defBody s_c_mul) (defScope s_c_mul) .none kV26 dc26 pm26 an26 cd26 ct26), sl26⟩)
    (c26 : PySem.W.codeIn K cd26 "Clip.__mul__" = true)
    (k26 : PySem.W.keepIn K (.ref f26) = true)
    (a27 : PySem.W.findIn K (.ref C) "__eq__" = some (some (.ref f27)))
    (i27 : PySem.W.isFn K (.ref f27) = true)
    (l27 : K.lookup f27 = some ⟨oc27, od27, .func (PySem.W.fnOf "__eq__" "Clip.__eq__" (defArgs s_c_eq) (defBody s_c_eq) (defScope s_c_eq) .none kV27 dc27 pm27 an27 cd27 ct27), sl27⟩)
    (c27 : PySem.W.codeIn K cd27 "Clip.__eq__" = true)
    (k27 : PySem.W.keepIn K (.ref f27) = true)
    (a28 : PySem.W.nsIn K mainGlobals "_law_pool" = some (some (.ref f28)))
    (l28 : K.lookup f28 = some ⟨oc28, od28, .func (PySem.W.fnOf "_law_pool" "_law_pool" (defArgs s_law_pool) (defBody s_law_pool) (defScope s_law_pool) .none kV28 dc28 pm28 an28 cd28 ct28), sl28⟩)
    (c28 : PySem.W.codeIn K cd28 "_law_pool" = true)
    (k28 : PySem.W.keepIn K (.ref f28) = true)
    (a29 : PySem.W.nsIn K mainGlobals "_law_take" = some (some (.ref f29)))
    (l29 : K.lookup f29 = some ⟨oc29, od29, .func (PySem.W.fnOf "_law_take" "_law_take" (defArgs s_law_take) (defBody s_law_take) (defScope s_law_take) .none kV29 dc29 pm29 an29 cd29 ct29), sl29⟩)
    (c29 : PySem.W.codeIn K cd29 "_law_take" = true)
    (k29 : PySem.W.keepIn K (.ref f29) = true)
    (a30 : PySem.W.nsIn K mainGlobals "_law_clip" = some (some (.ref f30)))
    (l30 : K.lookup f30 = some ⟨oc30, od30, .func (PySem.W.fnOf "_law_clip" "_law_clip" (defArgs s_law_clip) (defBody s_law_clip) (defScope s_law_clip) .none kV30 dc30 pm30 an30 cd30 ct30), sl30⟩)
    (c30 : PySem.W.codeIn K cd30 "_law_clip" = true)
    (k30 : PySem.W.keepIn K (.ref f30) = true)
    (a31 : PySem.W.nsIn K mainGlobals "_law_made" = some (some (.ref f31)))
    (l31 : K.lookup f31 = some ⟨oc31, od31, .func (PySem.W.fnOf "_law_made" "_law_made" (defArgs s_law_made) (defBody s_law_made) (defScope s_law_made) .none kV31 dc31 pm31 an31 cd31 ct31), sl31⟩)
    (c31 : PySem.W.codeIn K cd31 "_law_made" = true)
    (k31 : PySem.W.keepIn K (.ref f31) = true)
    (a32 : PySem.W.nsIn K mainGlobals "_law_size" = some (some (.ref f32)))
    (l32 : K.lookup f32 = some ⟨oc32, od32, .func (PySem.W.fnOf "_law_size" "_law_size" (defArgs s_law_size) (defBody s_law_size) (defScope s_law_size) .none kV32 dc32 pm32 an32 cd32 ct32), sl32⟩)
    (c32 : PySem.W.codeIn K cd32 "_law_size" = true)
    (k32 : PySem.W.keepIn K (.ref f32) = true)
    (a33 : PySem.W.nsIn K mainGlobals "_law_both" = some (some (.ref f33)))
    (l33 : K.lookup f33 = some ⟨oc33, od33, .func (PySem.W.fnOf "_law_both" "_law_both" (defArgs s_law_both) (defBody s_law_both) (defScope s_law_both) .none kV33 dc33 pm33 an33 cd33 ct33), sl33⟩)
    (c33 : PySem.W.codeIn K cd33 "_law_both" = true)
    (k33 : PySem.W.keepIn K (.ref f33) = true)
    (a34 : PySem.W.nsIn K mainGlobals "_law_copies" = some (some (.ref f34)))
    (l34 : K.lookup f34 = some ⟨oc34, od34, .func (PySem.W.fnOf "_law_copies" "_law_copies" (defArgs s_law_copies) (defBody s_law_copies) (defScope s_law_copies) .none kV34 dc34 pm34 an34 cd34 ct34), sl34⟩)
    (c34 : PySem.W.codeIn K cd34 "_law_copies" = true)
    (k34 : PySem.W.keepIn K (.ref f34) = true)
    (a35 : PySem.W.nsIn K mainGlobals "_law_stretch" = some (some (.ref f35)))
    (l35 : K.lookup f35 = some ⟨oc35, od35, .func (PySem.W.fnOf "_law_stretch" "_law_stretch" (defArgs s_law_stretch) (defBody s_law_stretch) (defScope s_law_stretch) .none kV35 dc35 pm35 an35 cd35 ct35), sl35⟩)
    (c35 : PySem.W.codeIn K cd35 "_law_stretch" = true)
    (k35 : PySem.W.keepIn K (.ref f35) = true)
    (a36 : PySem.W.nsIn K mainGlobals "_law_gained" = some (some (.ref f36)))
    (l36 : K.lookup f36 = some ⟨oc36, od36, .func (PySem.W.fnOf "_law_gained" "_law_gained" (defArgs s_law_gained) (defBody s_law_gained) (defScope s_law_gained) .none kV36 dc36 pm36 an36 cd36 ct36), sl36⟩)
    (c36 : PySem.W.codeIn K cd36 "_law_gained" = true)
    (k36 : PySem.W.keepIn K (.ref f36) = true)
    (a37 : PySem.W.nsIn K mainGlobals "_law_pieces" = some (some (.ref f37)))
    (l37 : K.lookup f37 = some ⟨oc37, od37, .func (PySem.W.fnOf "_law_pieces" "_law_pieces" (defArgs s_law_pieces) (defBody s_law_pieces) (defScope s_law_pieces) .none kV37 dc37 pm37 an37 cd37 ct37), sl37⟩)
    (c37 : PySem.W.codeIn K cd37 "_law_pieces" = true)
    (k37 : PySem.W.keepIn K (.ref f37) = true)
    (a38 : PySem.W.nsIn K mainGlobals "law" = some (some (.ref f38)))
    (l38 : K.lookup f38 = some ⟨oc38, od38, .func (PySem.W.fnOf "law" "law" (defArgs s_law) (defBody s_law) (defScope s_law) .none kV38 dc38 pm38 an38 cd38 ct38), sl38⟩)
    (c38 : PySem.W.codeIn K cd38 "law" = true)
    (k38 : PySem.W.keepIn K (.ref f38) = true)
    (pg : PySem.W.plainGet K C Str.empty = true)
    (hd : PySem.W.hasDictIn K C = true)
    (po : PySem.W.plainOver K C = true)
    (sa : PySem.W.findIn K (.ref C) "__setattr__" = some (some (.builtin "object.__setattr__")))
    (mk : PySem.W.makesIn K C = true)
    (kc : PySem.W.keepIn K (.ref C) = true)
    (rd : PySem.W.readsIn K C (.type "type") = true)
    (ga : PySem.W.specialIn K (.ref C) "__getattribute__" = some (some (.builtin "type.__getattribute__")))
    (sf : PySem.W.selfFirst K C = true)
    (nP : PySem.W.findIn K (.ref C) "own_pieces" = some none)
    (nL : PySem.W.findIn K (.ref C) "own_length" = some none)
    (ar : PySem.W.findIn K (.ref C) "__rmul__" = some none)
    (tm : PySem.W.findIn K (.type "int") "__mul__" = some u1)
    (tr : PySem.W.findIn K (.type "int") "__rmul__" = some u2)
    (ts : PySem.W.subIn K (.type "int") (.ref C) = some false)
    (hc : PySem.W.findIn K (.ref C) "__class__" = some (some (.builtin "object.__class__")))
    (qc : PySem.W.specialIn K (.builtin "object.__class__") "__get__" = some (some (.builtin "getset_descriptor.__get__")))
    (tc : PySem.W.takesIn K (.builtin "object.__class__") = some true)
    (mo : PySem.W.mroIn K C (.type "object") = some true)
    (m0 : PySem.W.nsIn K mainGlobals "MAX_COUNT" = some (some (.int (10 ^ 30) tk0)))
    (m1 : PySem.W.nsIn K mainGlobals "MAX_LENGTH" = some (some (.int (10 ^ 40) tk1)))
    (m2 : PySem.W.nsIn K mainGlobals "MAX_PIECES" = some (some (.int 200 tk2)))
    (m3 : PySem.W.nsIn K mainGlobals "MAX_GAIN" = some (some (.int 1000 tk3)))
    (m4 : PySem.W.nsIn K mainGlobals "MAX_NAME" = some (some (.int 8 tk4)))
    (mL : PySem.W.nsIn K mainGlobals "LETTERS" = some (some (.str "abcdefghijklmnopqrstuvwxyz" tkL)))
    (z_len : PySem.W.nsIn K mainGlobals "len" = some none)
    (z_sum : PySem.W.nsIn K mainGlobals "sum" = some none)
    (z_max : PySem.W.nsIn K mainGlobals "max" = some none)
    (z_min : PySem.W.nsIn K mainGlobals "min" = some none)
    (z_tuple : PySem.W.nsIn K mainGlobals "tuple" = some none)
    (z_list : PySem.W.nsIn K mainGlobals "list" = some none)
    (z_sorted : PySem.W.nsIn K mainGlobals "sorted" = some none)
    (z_all : PySem.W.nsIn K mainGlobals "all" = some none)
    (z_isinstance : PySem.W.nsIn K mainGlobals "isinstance" = some none)
    (z_int : PySem.W.nsIn K mainGlobals "int" = some none)
    (z_bool : PySem.W.nsIn K mainGlobals "bool" = some none)
    (z_str : PySem.W.nsIn K mainGlobals "str" = some none)
    (z_range : PySem.W.nsIn K mainGlobals "range" = some none)
    (z_enumerate : PySem.W.nsIn K mainGlobals "enumerate" = some none) :
    ∃ fd : FuncData, (∀ (s : Shared) (v : Value), BindsTo s fd ⟨[v], []⟩ [("_law_script", v)]) ∧ ∀ base : Heap, K.In base → base.Ns mainGlobals mg → FnOk l.prog w K mg base CX0 65 fa fd ["_law_script"] (spLaw K) := by
  have e := hfa.symm.trans (PySem.W.mg_of X G a38)
  cases e
  have F1 := fun_mk (st := s_is_integer) l1 c1 k1
  have b1 := F1.binds (ps := ["value"]) fun _ _ _ _ _ _ us hl => match us, hl with | [_], _ => rfl
  have F2 := fun_mk (st := s_is_between) l2 c2 k2
  have b2 := F2.binds (ps := ["value", "least", "most"]) fun _ _ _ _ _ _ us hl => match us, hl with | [_, _, _], _ => rfl
  have F3 := fun_mk (st := s_is_row) l3 c3 k3
  have b3 := F3.binds (ps := ["value"]) fun _ _ _ _ _ _ us hl => match us, hl with | [_], _ => rfl
  have F4 := fun_mk (st := s_is_name) l4 c4 k4
  have b4 := F4.binds (ps := ["value"]) fun _ _ _ _ _ _ us hl => match us, hl with | [_], _ => rfl
  have F5 := fun_mk (st := s_require_sound) l5 c5 k5
  have b5 := F5.binds (ps := ["sound"]) fun _ _ _ _ _ _ us hl => match us, hl with | [_], _ => rfl
  have F6 := fun_mk (st := s_piece_length) l6 c6 k6
  have b6 := F6.binds (ps := ["piece"]) fun _ _ _ _ _ _ us hl => match us, hl with | [_], _ => rfl
  have F7 := fun_mk (st := s_total_length) l7 c7 k7
  have b7 := F7.binds (ps := ["pieces"]) fun _ _ _ _ _ _ us hl => match us, hl with | [_], _ => rfl
  have F8 := fun_mk (st := s_piece_count) l8 c8 k8
  have b8 := F8.binds (ps := ["pieces"]) fun _ _ _ _ _ _ us hl => match us, hl with | [_], _ => rfl
  have F9 := fun_mk (st := s_merged) l9 c9 k9
  have b9 := F9.binds (ps := ["first", "second"]) fun _ _ _ _ _ _ us hl => match us, hl with | [_, _], _ => rfl
  have F10 := fun_mk (st := s_both_pieces) l10 c10 k10
  have b10 := F10.binds (ps := ["first", "second"]) fun _ _ _ _ _ _ us hl => match us, hl with | [_, _], _ => rfl
  have F11 := fun_mk (st := s_repeated_pieces) l11 c11 k11
  have b11 := F11.binds (ps := ["pieces", "count"]) fun _ _ _ _ _ _ us hl => match us, hl with | [_, _], _ => rfl
  have F12 := fun_mk (st := s_cut_repeat) l12 c12 k12
  have b12 := F12.binds (ps := ["piece", "start", "end"]) fun _ _ _ _ _ _ us hl => match us, hl with | [_, _, _], _ => rfl
  have F13 := fun_mk (st := s_cut_piece) l13 c13 k13
  have b13 := F13.binds (ps := ["piece", "start", "end"]) fun _ _ _ _ _ _ us hl => match us, hl with | [_, _, _], _ => rfl
  have F14 := fun_mk (st := s_cut_pieces) l14 c14 k14
  have b14 := F14.binds (ps := ["pieces", "start", "end"]) fun _ _ _ _ _ _ us hl => match us, hl with | [_, _, _], _ => rfl
  have F15 := fun_mk (st := s_gained_pieces) l15 c15 k15
  have b15 := F15.binds (ps := ["pieces", "gain"]) fun _ _ _ _ _ _ us hl => match us, hl with | [_, _], _ => rfl
  have F16 : FunV K "__init__" "Clip.__init__" s_c_init f16 (PySem.W.fnOf "__init__" "Clip.__init__" (defArgs s_c_init) (defBody s_c_init) (defScope s_c_init) (.ref T16) kV16 dc16 pm16 an16 cd16 ct16) := ⟨⟨oc16, od16, .ref T16, kV16, dc16, pm16, an16, cd16, ct16, sl16, rfl, l16, c16⟩⟩
  have b16 : Binds K (PySem.W.fnOf "__init__" "Clip.__init__" (defArgs s_c_init) (defBody s_c_init) (defScope s_c_init) (.ref T16) kV16 dc16 pm16 an16 cd16 ct16) ["self", "pieces"] [] := binds_dflt d16 rfl fun us hl => match us, hl with | [_, _], _ => ⟨_, rfl, rfl⟩
  have F17 := fun_mk (st := s_c_part) l17 c17 k17
  have b17 := F17.binds (ps := ["name", "start", "end"]) fun _ _ _ _ _ _ us hl => match us, hl with | [_, _, _], _ => rfl
  have F18 := fun_mk (st := s_c_silence) l18 c18 k18
  have b18 := F18.binds (ps := ["count"]) fun _ _ _ _ _ _ us hl => match us, hl with | [_], _ => rfl
  have F19 := fun_mk (st := s_c_samples) l19 c19 k19
  have b19 := F19.binds (ps := ["sound"]) fun _ _ _ _ _ _ us hl => match us, hl with | [_], _ => rfl
  have F20 := fun_mk (st := s_c_length) l20 c20 k20
  have b20 := F20.binds (ps := ["self"]) fun _ _ _ _ _ _ us hl => match us, hl with | [_], _ => rfl
  have F21 := fun_mk (st := s_c_pieces) l21 c21 k21
  have b21 := F21.binds (ps := ["self"]) fun _ _ _ _ _ _ us hl => match us, hl with | [_], _ => rfl
  have F22 := fun_mk (st := s_c_require_stretch) l22 c22 k22
  have b22 := F22.binds (ps := ["self", "start", "end"]) fun _ _ _ _ _ _ us hl => match us, hl with | [_, _, _], _ => rfl
  have F23 := fun_mk (st := s_c_cut) l23 c23 k23
  have b23 := F23.binds (ps := ["self", "start", "end"]) fun _ _ _ _ _ _ us hl => match us, hl with | [_, _, _], _ => rfl
  have F24 := fun_mk (st := s_c_gained) l24 c24 k24
  have b24 := F24.binds (ps := ["self", "top", "bottom"]) fun _ _ _ _ _ _ us hl => match us, hl with | [_, _, _], _ => rfl
  have F25 := fun_mk (st := s_c_add) l25 c25 k25
  have b25 := F25.binds (ps := ["self", "other"]) fun _ _ _ _ _ _ us hl => match us, hl with | [_, _], _ => rfl
  have F26 := fun_mk (st := s_c_mul) l26 c26 k26
  have b26 := F26.binds (ps := ["self", "other"]) fun _ _ _ _ _ _ us hl => match us, hl with | [_, _], _ => rfl
  have F27 := fun_mk (st := s_c_eq) l27 c27 k27
  have b27 := F27.binds (ps := ["self", "other"]) fun _ _ _ _ _ _ us hl => match us, hl with | [_, _], _ => rfl
  have F28 := fun_mk (st := s_law_pool) l28 c28 k28
  have b28 := F28.binds (ps := ["_law_script", "_law_k"]) fun _ _ _ _ _ _ us hl => match us, hl with | [_, _], _ => rfl
  have F29 := fun_mk (st := s_law_take) l29 c29 k29
  have b29 := F29.binds (ps := ["_law_pool_here", "_law_many"]) fun _ _ _ _ _ _ us hl => match us, hl with | [_, _], _ => rfl
  have F30 := fun_mk (st := s_law_clip) l30 c30 k30
  have b30 := F30.binds (ps := ["_law_pool_here", "_law_depth", "_law_lengths"]) fun _ _ _ _ _ _ us hl => match us, hl with | [_, _, _], _ => rfl
  have F31 := fun_mk (st := s_law_made) l31 c31 k31
  have b31 := F31.binds (ps := ["_law_tree"]) fun _ _ _ _ _ _ us hl => match us, hl with | [_], _ => rfl
  have F32 := fun_mk (st := s_law_size) l32 c32 k32
  have b32 := F32.binds (ps := ["_law_piece"]) fun _ _ _ _ _ _ us hl => match us, hl with | [_], _ => rfl
  have F33 := fun_mk (st := s_law_both) l33 c33 k33
  have b33 := F33.binds (ps := ["_law_first", "_law_second"]) fun _ _ _ _ _ _ us hl => match us, hl with | [_, _], _ => rfl
  have F34 := fun_mk (st := s_law_copies) l34 c34 k34
  have b34 := F34.binds (ps := ["_law_pieces_here", "_law_count"]) fun _ _ _ _ _ _ us hl => match us, hl with | [_, _], _ => rfl
  have F35 := fun_mk (st := s_law_stretch) l35 c35 k35
  have b35 := F35.binds (ps := ["_law_pieces_here", "_law_start_here", "_law_end_here"]) fun _ _ _ _ _ _ us hl => match us, hl with | [_, _, _], _ => rfl
  have F36 := fun_mk (st := s_law_gained) l36 c36 k36
  have b36 := F36.binds (ps := ["_law_pieces_here", "_law_gain"]) fun _ _ _ _ _ _ us hl => match us, hl with | [_, _], _ => rfl
  have F37 := fun_mk (st := s_law_pieces) l37 c37 k37
  have b37 := F37.binds (ps := ["_law_tree"]) fun _ _ _ _ _ _ us hl => match us, hl with | [_], _ => rfl
  have F38 := fun_mk (st := s_law) l38 c38 k38
  have T : Tx K mg := {
    is_integer := ⟨f1, _, F1, b1, PySem.W.mg_of X G a1⟩,
    is_between := ⟨f2, _, F2, b2, PySem.W.mg_of X G a2⟩,
    is_row := ⟨f3, _, F3, b3, PySem.W.mg_of X G a3⟩,
    is_name := ⟨f4, _, F4, b4, PySem.W.mg_of X G a4⟩,
    require_sound := ⟨f5, _, F5, b5, PySem.W.mg_of X G a5⟩,
    piece_length := ⟨f6, _, F6, b6, PySem.W.mg_of X G a6⟩,
    total_length := ⟨f7, _, F7, b7, PySem.W.mg_of X G a7⟩,
    piece_count := ⟨f8, _, F8, b8, PySem.W.mg_of X G a8⟩,
    merged := ⟨f9, _, F9, b9, PySem.W.mg_of X G a9⟩,
    both_pieces := ⟨f10, _, F10, b10, PySem.W.mg_of X G a10⟩,
    repeated_pieces := ⟨f11, _, F11, b11, PySem.W.mg_of X G a11⟩,
    cut_repeat := ⟨f12, _, F12, b12, PySem.W.mg_of X G a12⟩,
    cut_piece := ⟨f13, _, F13, b13, PySem.W.mg_of X G a13⟩,
    cut_pieces := ⟨f14, _, F14, b14, PySem.W.mg_of X G a14⟩,
    gained_pieces := ⟨f15, _, F15, b15, PySem.W.mg_of X G a15⟩,
    c_init := ⟨f16, _, F16, b16⟩,
    mkC := ⟨mk, a16, i16, kc⟩,
    c_part := ⟨f17, _, F17, b17⟩,
    ps1 := p17,
    s_part := ⟨s17, ⟨r17, q17⟩, k17⟩,
    c_silence := ⟨f18, _, F18, b18⟩,
    ps2 := p18,
    s_silence := ⟨s18, ⟨r18, q18⟩, k18⟩,
    c_samples := ⟨f19, _, F19, b19⟩,
    ps3 := p19,
    s_samples := ⟨s19, ⟨r19, q19⟩, k19⟩,
    c_length := ⟨f20, _, F20, b20⟩,
    pl := p20,
    p_length := ⟨a20, g20, t20, ⟨r20, q20⟩⟩,
    c_pieces := ⟨f21, _, F21, b21⟩,
    h_pieces := ⟨a21, i21, k21⟩,
    c_require_stretch := ⟨f22, _, F22, b22⟩,
    h_require_stretch := ⟨a22, i22, k22⟩,
    c_cut := ⟨f23, _, F23, b23⟩,
    h_cut := ⟨a23, i23, k23⟩,
    kb_cut := kb_of F23,
    c_gained := ⟨f24, _, F24, b24⟩,
    h_gained := ⟨a24, i24, k24⟩,
    c_add := ⟨f25, _, F25, b25⟩,
    a_add := a25,
    i_add := i25,
    c_mul := ⟨f26, _, F26, b26⟩,
    a_mul := a26,
    i_mul := i26,
    c_eq := ⟨f27, _, F27, b27⟩,
    a_eq := a27,
    i_eq := i27,
    law_pool := ⟨f28, _, F28, b28, PySem.W.mg_of X G a28⟩,
    law_take := ⟨f29, _, F29, b29, PySem.W.mg_of X G a29⟩,
    law_clip := ⟨f30, _, F30, b30, PySem.W.mg_of X G a30⟩,
    law_made := ⟨f31, _, F31, b31, PySem.W.mg_of X G a31⟩,
    law_size := ⟨f32, _, F32, b32, PySem.W.mg_of X G a32⟩,
    law_both := ⟨f33, _, F33, b33, PySem.W.mg_of X G a33⟩,
    law_copies := ⟨f34, _, F34, b34, PySem.W.mg_of X G a34⟩,
    law_stretch := ⟨f35, _, F35, b35, PySem.W.mg_of X G a35⟩,
    law_gained := ⟨f36, _, F36, b36, PySem.W.mg_of X G a36⟩,
    law_pieces := ⟨f37, _, F37, b37, PySem.W.mg_of X G a37⟩,
    C := C,
    cl := ⟨pg, hd, po, sa⟩,
    mgC := PySem.W.mg_of X G aC,
    rd := ⟨rd, ga⟩,
    sf := sf,
    nP := nP,
    nL := nL,
    a_rmul := ar,
    u_mul := u1,
    t_mul := tm,
    u_rmul := u2,
    t_rmul := tr,
    t_sub := ts,
    hcl := hc,
    kit := if_pos (beq_self_eq_true _),
    q_cls := qc,
    t_cls := tc,
    m_obj := mo,
    g_COUNT := ⟨tk0, PySem.W.mg_of X G m0⟩,
    g_LENGTH := ⟨tk1, PySem.W.mg_of X G m1⟩,
    g_PIECES := ⟨tk2, PySem.W.mg_of X G m2⟩,
    g_GAIN := ⟨tk3, PySem.W.mg_of X G m3⟩,
    g_NAME := ⟨tk4, PySem.W.mg_of X G m4⟩,
    lt := tkL,
    m_LETTERS := PySem.W.mg_of X G mL,
    n_len := PySem.W.mg_none_of X G z_len,
    n_sum := PySem.W.mg_none_of X G z_sum,
    n_max := PySem.W.mg_none_of X G z_max,
    n_min := PySem.W.mg_none_of X G z_min,
    n_tuple := PySem.W.mg_none_of X G z_tuple,
    n_list := PySem.W.mg_none_of X G z_list,
    n_sorted := PySem.W.mg_none_of X G z_sorted,
    n_all := PySem.W.mg_none_of X G z_all,
    n_isinstance := PySem.W.mg_none_of X G z_isinstance,
    n_int := PySem.W.mg_none_of X G z_int,
    n_bool := PySem.W.mg_none_of X G z_bool,
    n_str := PySem.W.mg_none_of X G z_str,
    n_range := PySem.W.mg_none_of X G z_range,
    n_enumerate := PySem.W.mg_none_of X G z_enumerate }
  exact ⟨PySem.W.fnOf "law" "law" (defArgs s_law) (defBody s_law) (defScope s_law) .none kV38 dc38 pm38 an38 cd38 ct38, fun s v => .of_eq rfl, fun base _ _ => ok_law T F38⟩
theorem walk {l : PySem.W.OpenLaw} {q : Program} {loose : List Str} {XP : (Str → Option Value) → Heap → Prop} {YP : World → Heap → Prop} {d : DefRec} {K : Params → Frg} (hn : l.most = some 63) (hdf : d.params.defaults = [])
    (hY : ∀ (w : World) (h : Heap), YP w h → (K w.params).In h)
    (F : ∀ (w : World) (mg : Str → Option Value) (fa : Addr) (h : Heap), (K w.params).In h → h.Ns mainGlobals mg → mg d.name = some (.ref fa) →
      ∃ fd : FuncData, (∀ (s : Shared) (u : Value), BindsTo s fd ⟨[u], []⟩ [("_law_script", u)]) ∧ ∀ base : Heap, (K w.params).In base → base.Ns mainGlobals mg → FnOk l.prog w (K w.params) mg base CX0 65 fa fd ["_law_script"] (spLaw (K w.params))) :
    PySem.W.WalkO q loose XP YP l.row.toRowW d [] (fun f vs => PySem.call f vs) :=
  L2.walk_of (n := 63) (k := 65) (x := "_law_script") (CX := fun _ => CX0) (sp := fun w => spLaw (K w.params)) hn (by decide) hdf ⟨rfl, by decide, by decide⟩ hY F (fun _ _ a ns hl _ hS => ⟨a, ns, rfl, hS, hl, fun _ => rfl⟩) fun _ _ _ _ _ z => z
end Cl

/-! part W15 -/
open PySem PySem.W PyProof.Rows
set_option maxRecDepth 100000 in
set_option maxHeartbeats 0 in
theorem PySem.Challenge.cw_framejoins_k47_whole_pieces_of_clips_holds : PySem.Challenge.rw_framejoins_k47_whole_pieces_of_clips.Holds := by
  w_on; o_law; k_head; (case hw => w_witness2)
  k_fill
  refine Cl.walk (l := PySem.Challenge.rw_framejoins_k47_whole_pieces_of_clips) rfl rfl (fun w h Y => PySem.W.kIn_of Y) ?F
  case F =>
    intro w mg fa h KX G hmg
    refine' Cl.all_mk KX G hmg ?e_aC ?e_a1 ?e_l1 ?e_c1 ?e_k1 ?e_a2 ?e_l2 ?e_c2 ?e_k2 ?e_a3 ?e_l3 ?e_c3 ?e_k3 ?e_a4 ?e_l4 ?e_c4 ?e_k4 ?e_a5 ?e_l5 ?e_c5 ?e_k5 ?e_a6 ?e_l6 ?e_c6 ?e_k6 ?e_a7 ?e_l7 ?e_c7 ?e_k7 ?e_a8 ?e_l8 ?e_c8 ?e_k8 ?e_a9 ?e_l9 ?e_c9 ?e_k9 ?e_a10 ?e_l10 ?e_c10 ?e_k10 ?e_a11 ?e_l11 ?e_c11 ?e_k11 ?e_a12 ?e_l12 ?e_c12 ?e_k12 ?e_a13 ?e_l13 ?e_c13 ?e_k13 ?e_a14 ?e_l14 ?e_c14 ?e_k14 ?e_a15 ?e_l15 ?e_c15 ?e_k15 ?e_a16 ?e_i16 ?e_l16 ?e_d16 ?e_c16 ?e_k16 ?e_s17 ?e_q17 ?e_l17 ?e_c17 ?e_k17 ?e_s18 ?e_q18 ?e_l18 ?e_c18 ?e_k18 ?e_s19 ?e_q19 ?e_l19 ?e_c19 ?e_k19 ?e_a20 ?e_g20 ?e_t20 ?e_q20 ?e_l20 ?e_c20 ?e_k20 ?e_a21 ?e_i21 ?e_l21 ?e_c21 ?e_k21 ?e_a22 ?e_i22 ?e_l22 ?e_c22 ?e_k22 ?e_a23 ?e_i23 ?e_l23 ?e_c23 ?e_k23 ?e_a24 ?e_i24 ?e_l24 ?e_c24 ?e_k24 ?e_a25 ?e_i25 ?e_l25 ?e_c25 ?e_k25 ?e_a26 ?e_i26 ?e_l26 ?e_c26 ?e_k26 ?e_a27 ?e_i27 ?e_l27 ?e_c27 ?e_k27 ?e_a28 ?e_l28 ?e_c28 ?e_k28 ?e_a29 ?e_l29 ?e_c29 ?e_k29 ?e_a30 ?e_l30 ?e_c30 ?e_k30 ?e_a31 ?e_l31 ?e_c31 ?e_k31 ?e_a32 ?e_l32 ?e_c32 ?e_k32 ?e_a33 ?e_l33 ?e_c33 ?e_k33 ?e_a34 ?e_l34 ?e_c34 ?e_k34 ?e_a35 ?e_l35 ?e_c35 ?e_k35 ?e_a36 ?e_l36 ?e_c36 ?e_k36 ?e_a37 ?e_l37 ?e_c37 ?e_k37 ?e_a38 ?e_l38 ?e_c38 ?e_k38 ?e_pg ?e_hd ?e_po ?e_sa ?e_mk ?e_kc ?e_rd ?e_ga ?e_sf ?e_nP ?e_nL ?e_ar ?e_tm ?e_tr ?e_ts ?e_hc ?e_qc ?e_tc ?e_mo ?e_m0 ?e_m1 ?e_m2 ?e_m3 ?e_m4 ?e_mL ?e_z_len ?e_z_sum ?e_z_max ?e_z_min ?e_z_tuple ?e_z_list ?e_z_sorted ?e_z_all ?e_z_isinstance ?e_z_int ?e_z_bool ?e_z_str ?e_z_range ?e_z_enumerate
    (case e_aC => k_is)
    (case e_a1 => k_is)
    (case e_l1 => k_is)
    (case e_c1 => k_is)
    (case e_k1 => k_is)
    (case e_a2 => k_is)
    (case e_l2 => k_is)
    (case e_c2 => k_is)
    (case e_k2 => k_is)
    (case e_a3 => k_is)
    (case e_l3 => k_is)
    (case e_c3 => k_is)
    (case e_k3 => k_is)
    (case e_a4 => k_is)
    (case e_l4 => k_is)
    (case e_c4 => k_is)
    (case e_k4 => k_is)
    (case e_a5 => k_is)
    (case e_l5 => k_is)
    (case e_c5 => k_is)
    (case e_k5 => k_is)
    (case e_a6 => k_is)
    (case e_l6 => k_is)
    (case e_c6 => k_is)
    (case e_k6 => k_is)
    (case e_a7 => k_is)
    (case e_l7 => k_is)
    (case e_c7 => k_is)
    (case e_k7 => k_is)
    (case e_a8 => k_is)
    (case e_l8 => k_is)
    (case e_c8 => k_is)
    (case e_k8 => k_is)
    (case e_a9 => k_is)
    (case e_l9 => k_is)
    (case e_c9 => k_is)
    (case e_k9 => k_is)
    (case e_a10 => k_is)
    (case e_l10 => k_is)
    (case e_c10 => k_is)
    (case e_k10 => k_is)
    (case e_a11 => k_is)
    (case e_l11 => k_is)
    (case e_c11 => k_is)
    (case e_k11 => k_is)
    (case e_a12 => k_is)
    (case e_l12 => k_is)
    (case e_c12 => k_is)
    (case e_k12 => k_is)
    (case e_a13 => k_is)
    (case e_l13 => k_is)
    (case e_c13 => k_is)
    (case e_k13 => k_is)
    (case e_a14 => k_is)
    (case e_l14 => k_is)
    (case e_c14 => k_is)
    (case e_k14 => k_is)
    (case e_a15 => k_is)
    (case e_l15 => k_is)
    (case e_c15 => k_is)
    (case e_k15 => k_is)
    (case e_a16 => k_is)
    (case e_i16 => k_is)
    (case e_l16 => k_is)
    (case e_d16 => k_is)
    (case e_c16 => k_is)
    (case e_k16 => k_is)
    (case e_s17 => k_is)
    (case e_q17 => k_is)
    (case e_l17 => k_is)
    (case e_c17 => k_is)
    (case e_k17 => k_is)
    (case e_s18 => k_is)
    (case e_q18 => k_is)
    (case e_l18 => k_is)
    (case e_c18 => k_is)
    (case e_k18 => k_is)
    (case e_s19 => k_is)
    (case e_q19 => k_is)
    (case e_l19 => k_is)
    (case e_c19 => k_is)
    (case e_k19 => k_is)
    (case e_a20 => k_is)
    (case e_g20 => k_is)
    (case e_t20 => k_is)
    (case e_q20 => k_is)
    (case e_l20 => k_is)
    (case e_c20 => k_is)
    (case e_k20 => k_is)
    (case e_a21 => k_is)
    (case e_i21 => k_is)
    (case e_l21 => k_is)
    (case e_c21 => k_is)
    (case e_k21 => k_is)
    (case e_a22 => k_is)
    (case e_i22 => k_is)
    (case e_l22 => k_is)
    (case e_c22 => k_is)
    (case e_k22 => k_is)
    (case e_a23 => k_is)
    (case e_i23 => k_is)
    (case e_l23 => k_is)
    (case e_c23 => k_is)
    (case e_k23 => k_is)
    (case e_a24 => k_is)
    (case e_i24 => k_is)
    (case e_l24 => k_is)
    (case e_c24 => k_is)
    (case e_k24 => k_is)
    (case e_a25 => k_is)
    (case e_i25 => k_is)
    (case e_l25 => k_is)
    (case e_c25 => k_is)
    (case e_k25 => k_is)
    (case e_a26 => k_is)
    (case e_i26 => k_is)
    (case e_l26 => k_is)
    (case e_c26 => k_is)
    (case e_k26 => k_is)
    (case e_a27 => k_is)
    (case e_i27 => k_is)
    (case e_l27 => k_is)
    (case e_c27 => k_is)
    (case e_k27 => k_is)
    (case e_a28 => k_is)
    (case e_l28 => k_is)
    (case e_c28 => k_is)
    (case e_k28 => k_is)
    (case e_a29 => k_is)
    (case e_l29 => k_is)
    (case e_c29 => k_is)
    (case e_k29 => k_is)
    (case e_a30 => k_is)
    (case e_l30 => k_is)
    (case e_c30 => k_is)
    (case e_k30 => k_is)
    (case e_a31 => k_is)
    (case e_l31 => k_is)
    (case e_c31 => k_is)
    (case e_k31 => k_is)
    (case e_a32 => k_is)
    (case e_l32 => k_is)
    (case e_c32 => k_is)
    (case e_k32 => k_is)
    (case e_a33 => k_is)
    (case e_l33 => k_is)
    (case e_c33 => k_is)
    (case e_k33 => k_is)
    (case e_a34 => k_is)
    (case e_l34 => k_is)
    (case e_c34 => k_is)
    (case e_k34 => k_is)
    (case e_a35 => k_is)
    (case e_l35 => k_is)
    (case e_c35 => k_is)
    (case e_k35 => k_is)
    (case e_a36 => k_is)
    (case e_l36 => k_is)
    (case e_c36 => k_is)
    (case e_k36 => k_is)
    (case e_a37 => k_is)
    (case e_l37 => k_is)
    (case e_c37 => k_is)
    (case e_k37 => k_is)
    (case e_a38 => k_is)
    (case e_l38 => k_is)
    (case e_c38 => k_is)
    (case e_k38 => k_is)
    (case e_pg => k_is)
    (case e_hd => k_is)
    (case e_po => k_is)
    (case e_sa => k_is)
    (case e_mk => k_is)
    (case e_kc => k_is)
    (case e_rd => k_is)
    (case e_ga => k_is)
    (case e_sf => k_is)
    (case e_nP => k_is)
    (case e_nL => k_is)
    (case e_ar => k_is)
    (case e_tm => k_is)
    (case e_tr => k_is)
    (case e_ts => k_is)
    (case e_hc => k_is)
    (case e_qc => k_is)
    (case e_tc => k_is)
    (case e_mo => k_is)
    (case e_m0 => k_is)
    (case e_m1 => k_is)
    (case e_m2 => k_is)
    (case e_m3 => k_is)
    (case e_m4 => k_is)
    (case e_mL => k_is)
    (case e_z_len => k_is)
    (case e_z_sum => k_is)
    (case e_z_max => k_is)
    (case e_z_min => k_is)
    (case e_z_tuple => k_is)
    (case e_z_list => k_is)
    (case e_z_sorted => k_is)
    (case e_z_all => k_is)
    (case e_z_isinstance => k_is)
    (case e_z_int => k_is)
    (case e_z_bool => k_is)
    (case e_z_str => k_is)
    (case e_z_range => k_is)
    (case e_z_enumerate => k_is)

