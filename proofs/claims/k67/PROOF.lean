import PyProof.Rows.All
import Wide.All
import OpenK.AllK
import Wide.FinOn
import HandS.Text
import KE.KIntText
import PyProof.ReprReads
import HandS.ForMost
import HandS.Lambda
import HandS.EndTab
import PyProof.ReprRoads
import HandS.Walk
import KE.GoesMore
import HandS.Strs
import KE.KDictCopyH
import KE.KExcSuper
import HandS.Exc
import HandS.ExcField
import HandS.ForExc
import HandS.IsInst
import HandS.More
import HandS.CallLocal
import HandS.Style
import PyProof.ReprLen
import HandS.TupAny
import PySem.Challenge.RW_openverbs_k67_whole_texts_of_arrays_and
set_option Elab.async false
set_option linter.all false
set_option maxRecDepth 100000
set_option maxHeartbeats 4000000
/-! The plain law: texts of arrays and customs, told, split, read; what repr shows. No program in sight. -/
namespace K67
open PySem TL

/-! ### words of integers -/
theorem signs_ofStr (s : String) : (Str.ofString s).cps.toList = s.toList.map Char.toNat := by
  rw [Str.ofString_eq_toList]
/-- the text of an integer -/
def wI (i : Int) : Str := ((toString i : String) : Str)
theorem tl_wI_nat (n : Nat) : tl (wI (n : Int)) = numL n := tl_num n
theorem tl_wI_neg (n : Nat) : tl (wI (-((n + 1 : Nat) : Int))) = 45 :: numL (n + 1) := by
  have e : (-((n + 1 : Nat) : Int)) = Int.negSucc n := rfl
  have h : tl (((n + 1 : Nat) : Int) |> wI) = numL (n + 1) := tl_num (n + 1)
  rw [e]
  unfold wI at h ⊢
  show ((Str.ofString _).cps.toList : List Nat) = _
  have h2 : (Str.ofString (toString ((n + 1 : Nat) : Int))).cps.toList = numL (n + 1) := h
  rw [signs_ofStr] at h2 ⊢
  have e2 : (toString (Int.negSucc n)) = "-" ++ (toString ((n + 1 : Nat) : Int)) := rfl
  rw [e2, String.toList_append, List.map_append, h2]
  rfl
theorem tl_wI (i : Int) : tl (wI i) = if i < 0 then 45 :: numL i.natAbs else numL i.natAbs := by
  by_cases h : i < 0
  · obtain ⟨n, rfl⟩ : ∃ n : Nat, i = -((n + 1 : Nat) : Int) := ⟨(-i).toNat - 1, by omega⟩
    rw [if_pos h, tl_wI_neg]
    have e : (-((n + 1 : Nat) : Int)).natAbs = n + 1 := by omega
    rw [e]
  · obtain ⟨n, rfl⟩ := Int.eq_ofNat_of_zero_le (Int.not_lt.mp h)
    rw [if_neg h, tl_wI_nat]
    rfl
theorem wI_ne (i : Int) : tl (wI i) ≠ [] := by
  rw [tl_wI]
  split
  · simp
  · exact numL_ne _
theorem wI_free {i : Int} {c : Nat} (h : c < 45 ∨ c = 46 ∨ c = 47 ∨ 57 < c) : c ∉ tl (wI i) := by
  have h2 : c ∉ numL i.natAbs := numL_free (by omega)
  rw [tl_wI]
  split
  · intro hm
    rcases List.mem_cons.mp hm with e | e
    · omega
    · exact h2 e
  · exact h2
theorem num45 (n : Nat) : 45 ∉ numL n := numL_free (by omega)
theorem wI_inj {i j : Int} (h : wI i = wI j) : i = j := by
  have e : tl (wI i) = tl (wI j) := by rw [h]
  rw [tl_wI, tl_wI] at e
  by_cases hi : i < 0 <;> by_cases hj : j < 0
  · rw [if_pos hi, if_pos hj] at e
    have := numL_inj (List.cons.inj e).2
    omega
  · rw [if_pos hi, if_neg hj] at e
    exact absurd (by rw [← e]; exact List.mem_cons_self ..) (num45 j.natAbs)
  · rw [if_neg hi, if_pos hj] at e
    exact absurd (by rw [e]; exact List.mem_cons_self ..) (num45 i.natAbs)
  · rw [if_neg hi, if_neg hj] at e
    have := numL_inj e
    omega
theorem wI_len {i : Int} (h : i.natAbs < 10 ^ 31) : (wI i).length ≤ 32 := by
  have z := numL_len (n := i.natAbs) (k := 31) (by decide) h
  rw [len_tl, tl_wI]
  split
  · rw [List.length_cons]; omega
  · omega
theorem wI_len_any {i : Int} {k : Nat} (hk : 0 < k) (h : i.natAbs < 10 ^ k) : (wI i).length ≤ k + 1 := by
  have z := numL_len (n := i.natAbs) (k := k) hk h
  rw [len_tl, tl_wI]
  split
  · rw [List.length_cons]; omega
  · omega
/-- how many figures -/
def figs (i : Int) : Nat := (numL i.natAbs).length
theorem figs_le {i : Int} (h : i.natAbs < 10 ^ 31) : figs i ≤ 31 := numL_len (by decide) h
theorem numL_len_ge : ∀ (k n : Nat), 10 ^ k ≤ n → k < (numL n).length
  | 0, n, _ => List.length_pos_iff.mpr (numL_ne n)
  | k + 1, n, h => by
    have h10 : 10 ≤ n := Nat.le_trans (by have := Nat.pow_pos (n := k) (show 0 < 10 by decide); rw [Nat.pow_succ]; omega) h
    rw [numL_step h10, List.length_append, List.length_singleton]
    have := numL_len_ge k (n / 10) (by rw [Nat.le_div_iff_mul_le (by decide)]; rw [Nat.pow_succ] at h; exact h)
    omega
theorem figs_gt {i : Int} (h : 10 ^ 31 ≤ i.natAbs) : 31 < figs i := numL_len_ge 31 _ h
theorem figs_abs (i : Int) : (wI (if i < 0 then -i else i)).length = figs i := by
  have e : (if i < 0 then -i else i) = ((i.natAbs : Nat) : Int) := by split <;> omega
  rw [e, len_tl, tl_wI_nat]
  rfl
theorem numL_head (n : Nat) (h : (numL n).head? = some 48) : n = 0 := by
  induction n using Nat.strongRecOn with
  | _ n ih =>
    by_cases hn : n < 10
    · rw [numL_lt hn] at h
      have := Option.some.inj h
      omega
    · rw [numL_step (by omega), List.head?_append] at h
      have hne := numL_ne (n / 10)
      cases e : numL (n / 10) with
      | nil => exact absurd e hne
      | cons c r =>
        rw [e] at h
        have hc : c = 48 := Option.some.inj h
        have := ih (n / 10) (by omega) (by rw [e, hc]; rfl)
        omega
/-- the word reads back -/
theorem intText_wI {i : Int} (h : i.natAbs < 10 ^ 31) : intText? (wI i) = some i := by
  have hl := wI_len h
  have e := tl_wI i
  by_cases hi : i < 0
  · rw [if_pos hi] at e
    have r := PySem.intText_neg (x := wI i) (cs := numL i.natAbs) e (numL_digits _) (numL_ne _) (by omega)
    rw [r, numL_val]
    congr 1
    omega
  · rw [if_neg hi] at e
    have r := PySem.intText_digits (x := wI i) (by rw [show (wI i).cps.toList = _ from e]; exact numL_digits _) (by rw [show (wI i).cps.toList = _ from e]; exact numL_ne _) (by omega)
    rw [r, show (wI i).cps.toList = _ from e, numL_val]
    congr 1
    omega

/-! ### texts of arrays and customs -/
def sp : Str := (" " : String)
theorem tl_sp : tl sp = [32] := by decide +kernel
def nl : Str := ("\n" : String)
theorem tl_nl : tl nl = [10] := by decide +kernel
def wOpen : Str := ("[" : String)
def wColon : Str := (":" : String)
def wShut : Str := ("]" : String)
def aWords (sh its : List Int) : List Str := wOpen :: (sh.map wI ++ (wColon :: (its.map wI ++ [wShut])))
def aText (sh its : List Int) : Str := Str.join sp (aWords sh its)
def uW (b : Bool) : Str := if b = true then ("unit" : String) else ("bare" : String)
def cWords : List (Str × Bool) → List Str
  | [] => []
  | (c, b) :: r => c :: uW b :: cWords r
def cText (cs : List (Str × Bool)) : Str := Str.join sp (cWords cs)
/-- the words of customs -/
def wNone : Str := ("none" : String)
def wGroup : Str := ("group" : String)
def wAny : Str := ("any" : String)
def wOnce : Str := ("once" : String)
def chain : List Str := [wNone, wGroup, wAny, wOnce]
/-- neither a blank nor a line feed -/
def Plain (w : Str) : Prop := 32 ∉ tl w ∧ 10 ∉ tl w
theorem plain_wI (i : Int) : Plain (wI i) := ⟨wI_free (by omega), wI_free (by omega)⟩
theorem plain_open : Plain wOpen := by unfold Plain; decide +kernel
theorem plain_colon : Plain wColon := by unfold Plain; decide +kernel
theorem plain_shut : Plain wShut := by unfold Plain; decide +kernel
theorem plain_uW (b : Bool) : Plain (uW b) := by cases b <;> (unfold Plain; decide +kernel)
theorem plain_chain : ∀ w ∈ chain, Plain w := by
  intro w hw
  simp only [chain, List.mem_cons, List.not_mem_nil, or_false] at hw
  rcases hw with rfl | rfl | rfl | rfl <;> (unfold Plain; decide +kernel)
theorem plain_aWords (sh its : List Int) : ∀ w ∈ aWords sh its, Plain w := by
  intro w hw
  simp only [aWords, List.mem_cons, List.mem_append, List.mem_map, List.not_mem_nil, or_false] at hw
  rcases hw with rfl | ⟨i, _, rfl⟩ | rfl | ⟨i, _, rfl⟩ | rfl
  · exact plain_open
  · exact plain_wI i
  · exact plain_colon
  · exact plain_wI i
  · exact plain_shut
/-- customs that may be -/
def GoodC (cs : List (Str × Bool)) : Prop := cs.length = 3 ∧ ∀ p ∈ cs, p.1 ∈ chain
theorem plain_cWords : ∀ {cs : List (Str × Bool)}, (∀ p ∈ cs, p.1 ∈ chain) → ∀ w ∈ cWords cs, Plain w
  | [], _, w, hw => absurd hw List.not_mem_nil
  | (c, b) :: r, h, w, hw => by
    rcases List.mem_cons.mp hw with rfl | hw
    · exact plain_chain _ (h _ (List.mem_cons_self ..))
    · rcases List.mem_cons.mp hw with rfl | hw
      · exact plain_uW b
      · exact plain_cWords (fun p hp => h p (List.mem_cons_of_mem _ hp)) w hw
theorem cWords_len : ∀ cs : List (Str × Bool), (cWords cs).length = 2 * cs.length
  | [] => rfl
  | (c, b) :: r => by
    show (cWords r).length + 1 + 1 = 2 * (r.length + 1)
    rw [cWords_len r]; omega
theorem split_words {ws : List Str} (hne : ws ≠ []) (h : ∀ w ∈ ws, Plain w) : Txt.split (Str.join sp ws) sp = ws := by
  have e := split_join (y := sp) tl_sp (by decide +kernel) (parts := ws) hne fun p hp => (h p hp).1
  rw [join_eq] at e
  exact e
theorem mem_joinL {c : Nat} {S : List Nat} : ∀ {ps : List (List Nat)}, c ∉ S → (∀ p ∈ ps, c ∉ p) → c ∉ joinL S ps
  | [], _, _ => by show c ∉ ([] : List Nat); simp
  | [p], _, h => h p (List.mem_singleton.mpr rfl)
  | p :: q :: r, hS, h => by
    show c ∉ p ++ (S ++ joinL S (q :: r))
    intro hm
    rcases List.mem_append.mp hm with hm | hm
    · exact h p (List.mem_cons_self ..) hm
    · rcases List.mem_append.mp hm with hm | hm
      · exact hS hm
      · exact mem_joinL hS (fun z hz => h z (List.mem_cons_of_mem _ hz)) hm
theorem one_line {ws : List Str} (h : ∀ w ∈ ws, Plain w) : Txt.split (Str.join sp ws) nl = [Str.join sp ws] := by
  have e := split_join (y := nl) tl_nl (by decide +kernel) (parts := [Str.join sp ws]) (by simp) fun p hp => by
    rw [List.mem_singleton.mp hp, tl_join]
    refine mem_joinL (by rw [tl_sp]; decide) fun q hq => ?_
    obtain ⟨z, hz, rfl⟩ := List.mem_map.mp hq
    exact (h z hz).2
  rw [join_eq] at e
  exact e
theorem words_inj {ws vs : List Str} (hne : ws ≠ []) (hnv : vs ≠ []) (h : ∀ w ∈ ws, Plain w) (hv : ∀ w ∈ vs, Plain w) (e : Str.join sp ws = Str.join sp vs) : ws = vs := by
  rw [← split_words hne h, ← split_words hnv hv, e]
/-- the text, told word by word -/
theorem join_fold : ∀ (xs : List Str) (x : Str), Str.join sp (x :: xs) = xs.foldl (fun a y => a ++ sp ++ y) x
  | [], _ => rfl
  | y :: r, x => by
    rw [List.foldl_cons, ← join_fold r (x ++ sp ++ y)]
    refine ext_tl ?_
    rw [tl_join, tl_join]
    cases r with
    | nil =>
      show tl x ++ (tl sp ++ tl y) = tl (x ++ sp ++ y)
      rw [tl_append, tl_append, List.append_assoc]
    | cons z r =>
      show tl x ++ (tl sp ++ (tl y ++ (tl sp ++ joinL (tl sp) ((z :: r).map tl)))) = tl (x ++ sp ++ y) ++ (tl sp ++ joinL (tl sp) ((z :: r).map tl))
      rw [tl_append, tl_append, List.append_assoc, List.append_assoc]
/-- lengths -/
theorem len_app (a b : Str) : (a ++ b).length = a.length + b.length := by
  rw [len_tl, len_tl, len_tl, tl_append, List.length_append]
theorem join_len_le (ws : List Str) (k : Nat) (h : ∀ w ∈ ws, w.length ≤ k) : (Str.join sp ws).length ≤ ws.length * (k + 1) := by
  have e : ∀ (xs : List Str) (x : Str), (∀ w ∈ xs, w.length ≤ k) → (xs.foldl (fun a y => a ++ sp ++ y) x).length ≤ x.length + xs.length * (k + 1) := by
    intro xs
    induction xs with
    | nil => intro x _; simp
    | cons y r ih =>
      intro x hx
      rw [List.foldl_cons]
      have h1 := ih (x ++ sp ++ y) fun w hw => hx w (List.mem_cons_of_mem _ hw)
      have h2 := hx y (List.mem_cons_self ..)
      rw [len_app, len_app] at h1
      have h3 : sp.length = 1 := by decide +kernel
      rw [List.length_cons, Nat.succ_mul]
      omega
  cases ws with
  | nil => exact Nat.zero_le _
  | cons x xs =>
    rw [join_fold]
    have h1 := e xs x fun w hw => h w (List.mem_cons_of_mem _ hw)
    have h2 := h x (List.mem_cons_self ..)
    rw [List.length_cons, Nat.succ_mul]
    omega
end K67
/-! The plain law, further: what repr shows of arrays and customs; that texts and reprs part unlike things. -/
namespace K67
open PySem TL
/-- cut at the first c -/
theorem cut_at {α : Type} {c : α} : ∀ {a a' : List α} {r r' : List α}, c ∉ a → c ∉ a' → a ++ c :: r = a' ++ c :: r' → a = a' ∧ r = r'
  | [], [], _, _, _, _, e => ⟨rfl, (List.cons.inj e).2⟩
  | [], x :: _, _, _, _, h', e => absurd (by rw [← (List.cons.inj e).1]; exact List.mem_cons_self ..) h'
  | x :: _, [], _, _, h, _, e => absurd (by rw [(List.cons.inj e).1]; exact List.mem_cons_self ..) h
  | x :: a, y :: a', r, r', h, h', e => by
    obtain ⟨e1, e2⟩ := List.cons.inj e
    obtain ⟨e3, e4⟩ := cut_at (a := a) (a' := a') (fun z => h (List.mem_cons_of_mem _ z)) (fun z => h' (List.mem_cons_of_mem _ z)) e2
    exact ⟨by rw [e1, e3], e4⟩
theorem map_inj {α β : Type} {f : α → β} (hf : ∀ x y, f x = f y → x = y) : ∀ {l m : List α}, l.map f = m.map f → l = m
  | [], [], _ => rfl
  | [], _ :: _, e => by cases e
  | _ :: _, [], e => by cases e
  | x :: l, y :: m, e => by
    obtain ⟨e1, e2⟩ := List.cons.inj e
    rw [hf _ _ e1, map_inj hf e2]
theorem wI_not {i : Int} {w : Str} (h : ∃ c ∈ tl w, c < 45 ∨ c = 46 ∨ c = 47 ∨ 57 < c) : wI i ≠ w := by
  intro e
  obtain ⟨c, hc, hb⟩ := h
  rw [← e] at hc
  exact wI_free hb hc
theorem wI_colon (i : Int) : wI i ≠ wColon := wI_not ⟨58, by decide +kernel, by omega⟩
theorem wI_shut (i : Int) : wI i ≠ wShut := wI_not ⟨93, by decide +kernel, by omega⟩
theorem wI_open (i : Int) : wI i ≠ wOpen := wI_not ⟨91, by decide +kernel, by omega⟩
theorem colon_free (l : List Int) : wColon ∉ l.map wI := fun h => by
  obtain ⟨i, _, e⟩ := List.mem_map.mp h
  exact wI_colon i e
theorem aWords_inj {sh its sh' its' : List Int} (e : aWords sh its = aWords sh' its') : sh = sh' ∧ its = its' := by
  obtain ⟨e1, e2⟩ := cut_at (colon_free sh) (colon_free sh') (List.cons.inj e).2
  have e3 := List.append_cancel_right e2
  exact ⟨map_inj (fun _ _ => wI_inj) e1, map_inj (fun _ _ => wI_inj) e3⟩
theorem uW_inj {a b : Bool} (e : uW a = uW b) : a = b := by
  cases a <;> cases b
  · rfl
  · exact absurd e (by decide +kernel)
  · exact absurd e (by decide +kernel)
  · rfl
theorem cWords_inj : ∀ {cs cs' : List (Str × Bool)}, cWords cs = cWords cs' → cs = cs'
  | [], [], _ => rfl
  | [], (_, _) :: _, e => by cases e
  | (_, _) :: _, [], e => by cases e
  | (c, b) :: r, (c', b') :: r', e => by
    obtain ⟨e1, e2⟩ := List.cons.inj e
    obtain ⟨e3, e4⟩ := List.cons.inj e2
    rw [e1, uW_inj e3, cWords_inj e4]

/-! ### what repr shows -/
def aData (sh its : List Int) : PyData := .tuple [.tuple (sh.map PyData.int), .tuple (its.map PyData.int)]
def pData (p : Str × Bool) : PyData := .tuple [.str p.1, .bool p.2]
def cData (cs : List (Str × Bool)) : PyData := .tuple (cs.map pData)
theorem shown_ints : ∀ l : List Int, PyData.shownAll (l.map PyData.int) = l.map wI
  | [] => rfl
  | i :: l => by
    show PyData.shown (.int i) :: PyData.shownAll (l.map PyData.int) = wI i :: l.map wI
    rw [shown_ints l]
    rfl
def wL (i : Int) : List Nat := tl (wI i)
def bodyL (l : List Int) : List Nat := joinL [44, 32] (l.map wL) ++ (if l.length = 1 then [44] else [])
theorem tl_tuple (ts : List Str) : tl (tupleText ts) = 40 :: (joinL [44, 32] (ts.map tl) ++ (if ts.length = 1 then [44, 41] else [41])) := by
  unfold tupleText
  rw [tl_append, tl_append, tl_join]
  have e1 : tl ((("(" : String) : Str)) = [40] := by decide +kernel
  have e2 : tl ((", " : String) : Str) = [44, 32] := by decide +kernel
  rw [e1, e2]
  by_cases h : ts.length = 1
  · rw [if_pos h, if_pos (by simpa using h)]
    have e3 : tl (((",)" : String) : Str)) = [44, 41] := by decide +kernel
    rw [e3]; rfl
  · rw [if_neg h, if_neg (by simpa using h)]
    have e3 : tl (((")" : String) : Str)) = [41] := by decide +kernel
    rw [e3]; rfl
theorem tl_ints (l : List Int) : tl (PyData.shown (.tuple (l.map PyData.int))) = 40 :: (bodyL l ++ [41]) := by
  show tl (tupleText (PyData.shownAll (l.map PyData.int))) = _
  rw [tl_tuple, shown_ints, List.map_map, List.length_map]
  unfold bodyL
  by_cases h : l.length = 1
  · rw [if_pos h, if_pos h, List.append_assoc]; rfl
  · rw [if_neg h, if_neg h, List.append_nil]; rfl
theorem W_free {c : Nat} (h : c < 45 ∨ c = 46 ∨ c = 47 ∨ 57 < c) (i : Int) : c ∉ wL i := wI_free h
theorem body_free {c : Nat} (h : c < 45 ∨ c = 46 ∨ c = 47 ∨ 57 < c) (h1 : c ≠ 44) (h2 : c ≠ 32) (l : List Int) : c ∉ bodyL l := by
  unfold bodyL
  intro hm
  rcases List.mem_append.mp hm with hm | hm
  · refine mem_joinL (by simp [h1, h2]) (fun p hp => ?_) hm
    obtain ⟨i, _, rfl⟩ := List.mem_map.mp hp
    exact W_free h i
  · by_cases hl : l.length = 1
    · rw [if_pos hl] at hm
      exact h1 (List.mem_singleton.mp hm)
    · rw [if_neg hl] at hm
      exact List.not_mem_nil hm
theorem W_inj {i j : Int} (h : wL i = wL j) : i = j := wI_inj (ext_tl h)
theorem body_inj {l m : List Int} (e : bodyL l = bodyL m) : l = m := by
  have c44 : ∀ i, 44 ∉ wL i := fun i => W_free (by omega) i
  have two : ∀ (i j k : Int) (r : List Int), bodyL [i] ≠ bodyL (j :: k :: r) := by
    intro i j k r e
    unfold bodyL at e
    rw [if_pos (show [i].length = 1 from rfl), if_neg (by simp), List.append_nil] at e
    have e' : wL i ++ 44 :: [] = wL j ++ 44 :: (32 :: joinL [44, 32] ((k :: r).map wL)) := e
    exact absurd (cut_at (c44 i) (c44 j) e').2 (by simp)
  have none : ∀ (i : Int) (r : List Int), bodyL [] ≠ bodyL (i :: r) := by
    intro i r e
    have hne := wI_ne i
    have e0 : ([] : List Nat) = bodyL (i :: r) := e
    cases r with
    | nil =>
      have e1 : ([] : List Nat) = wL i ++ [44] := e0
      exact absurd e1.symm (by simp)
    | cons j r =>
      unfold bodyL at e0
      rw [if_neg (by simp), List.append_nil] at e0
      have e1 : ([] : List Nat) = wL i ++ ([44, 32] ++ joinL [44, 32] ((j :: r).map wL)) := e0
      exact absurd e1.symm (by simp)
  match l, m with
  | [], [] => rfl
  | [], j :: r => exact absurd e (none j r)
  | i :: r, [] => exact absurd e.symm (none i r)
  | [i], [j] =>
    have e1 : wL i ++ [44] = wL j ++ [44] := e
    rw [W_inj (List.append_cancel_right e1)]
  | [i], j :: k :: r => exact absurd e (two i j k r)
  | i :: k :: r, [j] => exact absurd e.symm (two j i k r)
  | i :: k :: r, j :: k' :: r' =>
    unfold bodyL at e
    rw [if_neg (by simp), if_neg (by simp), List.append_nil, List.append_nil] at e
    have f : ∀ l : List Int, ∀ p ∈ l.map wL, 44 ∉ p := fun l p hp => by
      obtain ⟨i, _, rfl⟩ := List.mem_map.mp hp
      exact c44 i
    have h1 := spl_join (s := 44) (S := [32]) (parts := (i :: k :: r).map wL) (by simp) (f _)
    have h2 := spl_join (s := 44) (S := [32]) (parts := (j :: k' :: r').map wL) (by simp) (f _)
    rw [e, h2] at h1
    exact (map_inj (fun _ _ => W_inj) h1).symm
def aRep (sh its : List Int) : Str := (aData sh its).shown
theorem tl_aRep (sh its : List Int) : tl (aRep sh its) = 40 :: 40 :: (bodyL sh ++ 41 :: (44 :: 32 :: 40 :: (bodyL its ++ 41 :: [41]))) := by
  show tl (tupleText (PyData.shownAll [.tuple (sh.map PyData.int), .tuple (its.map PyData.int)])) = _
  rw [tl_tuple]
  show 40 :: ((tl (PyData.shown (.tuple (sh.map PyData.int))) ++ ([44, 32] ++ tl (PyData.shown (.tuple (its.map PyData.int))))) ++ [41]) = _
  rw [tl_ints, tl_ints]
  simp
theorem aRep_inj {sh its sh' its' : List Int} (e : aRep sh its = aRep sh' its') : sh = sh' ∧ its = its' := by
  have e1 : tl (aRep sh its) = tl (aRep sh' its') := by rw [e]
  rw [tl_aRep, tl_aRep] at e1
  have e2 := (List.cons.inj (List.cons.inj e1).2).2
  have f : ∀ l, 41 ∉ bodyL l := fun l => body_free (by omega) (by omega) (by omega) l
  obtain ⟨e3, e4⟩ := cut_at (f sh) (f sh') e2
  have e5 := (List.cons.inj (List.cons.inj (List.cons.inj e4).2).2).2
  obtain ⟨e6, _⟩ := cut_at (f its) (f its') e5
  exact ⟨body_inj e3, body_inj e6⟩
def cRep (cs : List (Str × Bool)) : Str := (cData cs).shown
/-- what stands within the brackets of a pair -/
def inner (p : Str × Bool) : List Nat := ((tl (pData p).shown).drop 1).dropLast
theorem inner_ok : ∀ c ∈ chain, ∀ b ∈ [true, false], tl (pData (c, b)).shown = 40 :: (inner (c, b) ++ [41]) ∧ 41 ∉ inner (c, b) ∧ (inner (c, b)).head? = some 39 := by decide +kernel
theorem inner_inj : ∀ c ∈ chain, ∀ b ∈ [true, false], ∀ c' ∈ chain, ∀ b' ∈ [true, false], inner (c, b) = inner (c', b') → c = c' ∧ b = b' := by decide +kernel
theorem bool_mem (b : Bool) : b ∈ [true, false] := by cases b <;> simp
theorem tl_cRep {p q r : Str × Bool} (hp : p.1 ∈ chain) (hq : q.1 ∈ chain) (hr : r.1 ∈ chain) :
    tl (cRep [p, q, r]) = 40 :: 40 :: (inner p ++ 41 :: (44 :: 32 :: 40 :: (inner q ++ 41 :: (44 :: 32 :: 40 :: (inner r ++ 41 :: [41]))))) := by
  show tl (tupleText (PyData.shownAll [pData p, pData q, pData r])) = _
  rw [tl_tuple]
  show 40 :: ((tl (pData p).shown ++ ([44, 32] ++ (tl (pData q).shown ++ ([44, 32] ++ tl (pData r).shown)))) ++ [41]) = _
  have e1 : tl (pData p).shown = 40 :: (inner p ++ [41]) := (inner_ok p.1 hp p.2 (bool_mem _)).1
  have e2 : tl (pData q).shown = 40 :: (inner q ++ [41]) := (inner_ok q.1 hq q.2 (bool_mem _)).1
  have e3 : tl (pData r).shown = 40 :: (inner r ++ [41]) := (inner_ok r.1 hr r.2 (bool_mem _)).1
  rw [e1, e2, e3]
  simp
theorem three {α : Type} {l : List α} (h : l.length = 3) : ∃ a b c, l = [a, b, c] := by
  match l, h with
  | [a, b, c], _ => exact ⟨a, b, c, rfl⟩
theorem cRep_inj {cs cs' : List (Str × Bool)} (h : GoodC cs) (h' : GoodC cs') (e : cRep cs = cRep cs') : cs = cs' := by
  obtain ⟨hl, hc⟩ := h
  obtain ⟨hl', hc'⟩ := h'
  obtain ⟨p, q, r, rfl⟩ := three hl
  obtain ⟨p', q', r', rfl⟩ := three hl'
  have m1 := hc p (by simp)
  have m2 := hc q (by simp)
  have m3 := hc r (by simp)
  have n1 := hc' p' (by simp)
  have n2 := hc' q' (by simp)
  have n3 := hc' r' (by simp)
  have e1 : tl (cRep [p, q, r]) = tl (cRep [p', q', r']) := by rw [e]
  rw [tl_cRep m1 m2 m3, tl_cRep n1 n2 n3] at e1
  have f : ∀ p : Str × Bool, p.1 ∈ chain → 41 ∉ inner p := fun p hp => (inner_ok p.1 hp p.2 (bool_mem _)).2.1
  have g : ∀ p p' : Str × Bool, p.1 ∈ chain → p'.1 ∈ chain → inner p = inner p' → p = p' := fun p p' h h' e => by
    obtain ⟨a, b⟩ := inner_inj p.1 h p.2 (bool_mem _) p'.1 h' p'.2 (bool_mem _) e
    exact Prod.ext a b
  have e2 := (List.cons.inj (List.cons.inj e1).2).2
  obtain ⟨e3, e4⟩ := cut_at (f p m1) (f p' n1) e2
  have e5 := (List.cons.inj (List.cons.inj (List.cons.inj e4).2).2).2
  obtain ⟨e6, e7⟩ := cut_at (f q m2) (f q' n2) e5
  have e8 := (List.cons.inj (List.cons.inj (List.cons.inj e7).2).2).2
  obtain ⟨e9, _⟩ := cut_at (f r m3) (f r' n3) e8
  rw [g p p' m1 n1 e3, g q q' m2 n2 e6, g r r' m3 n3 e9]

/-! ### arrays and customs together -/
inductive Thing where
  | arr (sh its : List Int)
  | cus (cs : List (Str × Bool))
def Thing.ok : Thing → Prop
  | .arr _ _ => True
  | .cus cs => GoodC cs
def Thing.text : Thing → Str
  | .arr sh its => aText sh its
  | .cus cs => cText cs
def Thing.rep : Thing → Str
  | .arr sh its => aRep sh its
  | .cus cs => cRep cs
theorem cWords_neR {cs : List (Str × Bool)} (h : cs.length = 3) : cWords cs ≠ [] := fun e => by
  have := cWords_len cs
  rw [e, h] at this
  exact absurd this (by decide)
theorem not_open : ∀ c ∈ chain, c ≠ wOpen := by decide +kernel
theorem text_inj {d d' : Thing} (h : d.ok) (h' : d'.ok) (e : d.text = d'.text) : d = d' := by
  match d, d' with
  | .arr sh its, .arr sh' its' =>
    have e1 := words_inj (by simp [aWords]) (by simp [aWords]) (plain_aWords sh its) (plain_aWords sh' its') e
    obtain ⟨rfl, rfl⟩ := aWords_inj e1
    rfl
  | .cus cs, .cus cs' =>
    have e1 := words_inj (cWords_neR h.1) (cWords_neR h'.1) (plain_cWords h.2) (plain_cWords h'.2) e
    rw [cWords_inj e1]
  | .arr sh its, .cus cs =>
    exfalso
    have e1 := words_inj (by simp [aWords]) (cWords_neR h'.1) (plain_aWords sh its) (plain_cWords h'.2) e
    obtain ⟨p, q, r, rfl⟩ := three h'.1
    exact not_open p.1 (h'.2 p (by simp)) (List.cons.inj e1).1.symm
  | .cus cs, .arr sh its =>
    exfalso
    have e1 := words_inj (cWords_neR h.1) (by simp [aWords]) (plain_cWords h.2) (plain_aWords sh its) e
    obtain ⟨p, q, r, rfl⟩ := three h.1
    exact not_open p.1 (h.2 p (by simp)) (List.cons.inj e1).1
theorem apart {sh its : List Int} {cs : List (Str × Bool)} (h : GoodC cs) : aRep sh its ≠ cRep cs := by
  intro e
  obtain ⟨hl, hc⟩ := h
  obtain ⟨p, q, r, rfl⟩ := three hl
  have e1 : tl (aRep sh its) = tl (cRep [p, q, r]) := by rw [e]
  rw [tl_aRep, tl_cRep (hc p (by simp)) (hc q (by simp)) (hc r (by simp))] at e1
  have e2 := (List.cons.inj (List.cons.inj e1).2).2
  have h39 : (bodyL sh ++ 41 :: (44 :: 32 :: 40 :: (bodyL its ++ 41 :: [41]))).head? = some 39 := by
    rw [e2, List.head?_append, (inner_ok p.1 (hc p (by simp)) p.2 (bool_mem _)).2.2]
    rfl
  have n39 : 39 ∉ bodyL sh := body_free (by omega) (by omega) (by omega) sh
  cases hb : bodyL sh with
  | nil =>
    rw [hb] at h39
    exact absurd (Option.some.inj h39) (by decide)
  | cons c l =>
    rw [hb] at h39 n39
    have : c = 39 := Option.some.inj h39
    exact n39 (by rw [this]; exact List.mem_cons_self ..)
theorem rep_inj {d d' : Thing} (h : d.ok) (h' : d'.ok) (e : d.rep = d'.rep) : d = d' := by
  match d, d' with
  | .arr sh its, .arr sh' its' =>
    obtain ⟨rfl, rfl⟩ := aRep_inj e
    rfl
  | .cus cs, .cus cs' => rw [cRep_inj h h' e]
  | .arr sh its, .cus cs => exact absurd e (apart h')
  | .cus cs, .arr sh its => exact absurd e.symm (apart h)
end K67
/-! Promises that hold where no repr is under way (A.guards = some []): a def that calls repr, its callers. And repr of data of any depth. -/
namespace K67
open PySem PySem.Spec PyProof.Rows L2
/-- as FnOk, where no repr is under way and nothing is raised -/
structure FnG (P : Program) (w : World) (K : PySem.W.Frag) (mg : Str → Option Value) (base : Heap) (k : Nat) (f : Addr) (fd : FuncData) (ps : List Str) (sp : Sp) : Prop where
  len : ∀ vs H Q E, sp vs H Q E → vs.length = ps.length
  run : ∀ (A : Around) (outer : List Env) (s : Shared) (H : Hp) (args : Args) (us : List Value) (vs : List V) (Q : VK),
    A.guards = some [] → Room k A → Env0 P w K mg base A outer s H → BindsTo s fd args (ps.zip us) → Vals vs us → sp vs H Q E0 →
    codeAny (model P w) A (.call (.ref f) args) (CR CX0 outer P w H s Q E0) s
theorem guards_deeper {A : Around} (env : Env) (h : A.guards = some []) : (A.deeper env).guards = some [] := h
section
variable {P : Program} {w : World} {K : PySem.W.Frag} {mg : Str → Option Value} {base : Heap}
theorem okG {x qual : Str} {st : Stmt} {f : Addr} {fd : FuncData} {N ps : List Str} {k : Nat} {sp : Sp} (F : Fun K x qual st f fd) (S : FnScope N ps (defScope st))
    (len : ∀ vs H Q E, sp vs H Q E → vs.length = ps.length)
    (hbody : ∀ (cdv : Value) (A : Around) (outer : List Env) (s : Shared) (H : Hp) (vs : List V) (Q : VK), A.guards = some [] →
      Room k (A.deeper (envOfC qual (defScope st) s.heap.objs.size f cdv)) → sp vs H Q E0 →
      ∃ t, PSs (cxOf CX0 P w K mg base N qual (defScope st) f cdv A outer s H E0).nox (defBody st) t ∧ t { nx := fun _ H' => Q .non H', rt := Q } (start N vs) H) :
    FnG P w K mg base (k + 1) f fd ps sp := by
  obtain ⟨oc, od, kV, doc, pm, an, cdv, ct, osl, rfl, lk, hcd⟩ := F.ex
  refine ⟨len, fun A outer s H args us vs Q hg hr e0 hb r h => ?_⟩
  refine LamX.run_ofS lk hcd S hr e0 hb r (len _ _ _ _ h) fun hr' => ?_
  obtain ⟨t, ht, q⟩ := hbody cdv A outer s H vs Q hg hr' h
  exact ⟨t, ht.nox, q⟩
end
section
variable {X : Cx} {k : Nat} {f : Addr} {fd : FuncData} {ps : List Str} {sp : Sp} {x : Str} {p pos : Pos} {e : Expr} {es : List Expr} {t : TA}
theorem run_fnG {pins : List (Addr × Obj)} {σ : L2.St} {H : Hp} {s : Shared} {Q : VK} {us : List Value} {vs : List V} (F : FnG X.prog X.w X.K X.mg X.base k f fd ps sp) (hg : X.A.guards = some []) (hr : Room k X.A)
    (hb : Binds X.K fd ps []) (I : Inv X pins σ H s) (r : Vals vs us) (h : sp vs H Q E0) : wpAny (model X.prog X.w) X.A (call (.ref f) us) (EP X pins σ Q) X.xe s := by
  have hl : (us ++ []).length = ps.length := by rw [List.append_nil, ← r.length]; exact F.len _ _ _ _ h
  have b := hb s us I.kIn hl
  rw [List.append_nil] at b
  refine wpAny_call (codeAny_mono (F.run X.A X.stack s H ⟨us, []⟩ us vs Q hg hr I.env0 b r h) fun res s' hq => ?_)
  match res, hq with
  | .ok (.ret u), hq => exact I.after hq
theorem pe_callG (F : FnG X.prog X.w X.K X.mg X.base k f fd ps sp) (hg : X.A.guards = some []) (hr : Room k X.A) (hgl : Gl X x) (hm : X.mg x = some (.ref f)) (hk : PySem.W.keepIn X.K (.ref f) = true)
    (hb : Binds X.K fd ps []) (ha : PA X (e :: es) t) (hdb : (x == ("__debug__" : Str)) = false := by decide)
    (he : starEach (e :: es) X.env = (false, eval e X.env) :: starEach es X.env := by rfl) (hpl : (backTo pos (starEach es X.env)).any (·.1) = false := by rfl) :
    PE X (.Call (.Name x p) (e :: es) [] pos) (tCall sp [] E0 t) := by
  refine ⟨fun pins s σ H Q I h => wpAny_Call_Name_kw (ld_glob I hgl hm ?_ hdb)⟩
  refine PySem.W.callWith_K (h₀ := X.base) I.ok.mod.kin hk (thn (ha.run pos pins s σ H _ I h) fun us s1 ⟨vs, H1, I1, r, q⟩ => ⟨I1.kIn, ?_⟩) he hpl
  exact run_fnG F hg hr hb I1 r (by rw [← List.append_nil vs]; exact q)
theorem pe_callG0 (F : FnG X.prog X.w X.K X.mg X.base k f fd ps sp) (hg : X.A.guards = some []) (hr : Room k X.A) (hgl : Gl X x) (hm : X.mg x = some (.ref f)) (hk : PySem.W.keepIn X.K (.ref f) = true)
    (hb : Binds X.K fd ps []) (hdb : (x == ("__debug__" : Str)) = false := by decide) : PE X (.Call (.Name x p) [] [] pos) (tCall sp [] E0 tNil) := by
  refine ⟨fun pins s σ H Q I h => wpAny_Call_Name_kw (ld_glob I hgl hm ?_ hdb)⟩
  exact PySem.W.callWith_K0 I.kIn hk (run_fnG (us := []) F hg hr hb I .nil h)
/-- repr(x), x an object of plain data -/
def rRepr (K : PySem.W.Frag) : List V → Hp → VK → Prop := fun xs H Q => ∃ (a : Addr) (d : PyData), xs = [.ref a] ∧ Dp K H (.ref a) d ∧ d.showable = true ∧ d.hasDict = false ∧ d.depth ≤ 50 ∧
  d.shown.length ≤ sizeLine ∧ Q (.str d.shown) H
theorem call_reprD (hg : X.A.guards = some []) (hu : X.A.units + 64 < cLine) : CallR X (.builtin "repr") (rRepr X.K) := by
  intro pins s σ H xs us Q I r h
  obtain ⟨a, d, rfl, hd, hs, hn, hdp, hz, q⟩ := h
  match us, r with
  | [u], .cons r1 .nil =>
    obtain ⟨as, rd⟩ := Dp.reads I d _ u hd r1
    cases r1
    refine repr_of_reads' rd hs (fun z => by rw [hn] at z; cases z) hg (by omega) (fun _ _ z => z) (fun h' v tk hk => ?_) hz
    exact ⟨.str d.shown, H, I.kept hk, ⟨v, rfl⟩, q⟩
end
end K67
/-! The law's end: from a guarded promise of law to the claim, with one table of code objects (of the def that holds the lambda) and the script's bits. -/
namespace K67
open PySem PySem.Spec PyProof.Rows L2 LamX
/-- an empty table of code objects -/
abbrev tab0 : Obj := { cls := .none, data := .fields #[] }
/-- what is tracked at the law's entry: the script (unless the text holds it) and the table -/
structure Entry (K : PySem.W.Frag) (a T : Addr) (ns : List Int) (P : Program) (w : World) (h : Heap) (H : Hp) : Prop where
  tab : H T = some (.tbl #[])
  only : ∀ b, H b ≠ none → b = a ∨ b = T
  seq : SqL K H a (ns.map V.int)
  ok : HOk P w H h
  ata : H a = none ∨ (K.lookup a = none ∧ ∃ o xs, H a = some (.frz o (.lst xs)))
theorem entry_is {K : PySem.W.Frag} {a T : Addr} {ns : List Int} {P : Program} {w : World} {h : Heap} {vs : List Value} (KX : K.In h) (hT : h.get? T = some tab0) (ha : h.get? a = some { cls := .type "list", data := .seq vs.toArray })
    (hi : IntsAre vs ns) (hl : ns.length ≤ sizeLine) : ∃ H, Entry K a T ns P w h H := by
  have rv := vals_ints hi
  have aT : a ≠ T := fun z => by
    rw [z, hT] at ha
    have z2 := congrArg Obj.data (Option.some.inj ha)
    cases z2
  by_cases hk : K.lookup a = none
  · refine ⟨fun b => if b = T then some (.tbl #[]) else if b = a then some (.frz { cls := .type "list", data := .seq vs.toArray } (.lst (ns.map V.int))) else none, if_pos rfl, fun b hb => ?_, ?_, fun b o hb => ?_, .inr ⟨hk, { cls := .type "list", data := .seq vs.toArray }, ns.map V.int, ?_⟩⟩
    · by_cases h1 : b = T
      · exact .inr h1
      · by_cases h2 : b = a
        · exact .inl h2
        · exact absurd ((if_neg h1).trans (if_neg h2)) hb
    · exact .inl (.inr ⟨_, (if_neg aT).trans (if_pos rfl)⟩)
    · by_cases h1 : b = T
      · have e := (if_pos h1).symm.trans hb
        cases e
        rw [h1]; exact hT
      · by_cases h2 : b = a
        · have e := ((if_neg h1).trans (if_pos h2)).symm.trans hb
          cases e
          rw [h2]
          exact ⟨ha, by rw [List.length_map]; exact hl, vs, _, rv, ha⟩
        · have e := ((if_neg h1).trans (if_neg h2)).symm.trans hb
          cases e
    · exact (if_neg aT).trans (if_pos rfl)
  · obtain ⟨o, ho⟩ := Option.ne_none_iff_exists'.mp hk
    have e := KX a o ho
    rw [ha] at e
    cases e
    refine ⟨fun b => if b = T then some (.tbl #[]) else none, if_pos rfl, fun b hb => ?_, .inr ⟨_, vs.toArray, _, ho, rfl, rfl, rfl, ?_, by simpa using rv⟩, fun b o hb => ?_, .inl (if_neg aT)⟩
    · by_cases h1 : b = T
      · exact .inr h1
      · exact absurd (if_neg h1) hb
    · rw [List.size_toArray, hi.length]; exact hl
    · by_cases h1 : b = T
      · have e := (if_pos h1).symm.trans hb
        cases e
        rw [h1]; exact hT
      · have e := (if_neg h1).symm.trans hb
        cases e
section
variable {P : Program} {w : World} {K : PySem.W.Frag} {mg mb : Str → Option Value} {a T c : Addr} {s : Shared} {H : Hp} {vs : List Value} {ns : List Int}
/-- what stands in the heap and is no list and no empty record isn't tracked -/
theorem Entry.none_at (e : Entry K a T ns P w s.heap H) (hT : s.heap.get? T = some tab0) (ha : s.heap.get? a = some { cls := .type "list", data := .seq vs.toArray }) {b : Addr} {o : Obj} (hb : s.heap.get? b = some o)
    (h1 : ∀ us n, o.data ≠ .seq us n) (h2 : o.data ≠ .fields #[]) : H b = none := by
  by_cases hn : H b = none
  · exact hn
  · rcases e.only b hn with z | z
    · rw [z, ha] at hb
      cases hb
      exact absurd rfl (h1 _ _)
    · rw [z, hT] at hb
      cases hb
      exact absurd rfl h2
theorem Entry.keep (e : Entry K a T ns P w s.heap H) (hT : s.heap.get? T = some tab0) (ha : s.heap.get? a = some { cls := .type "list", data := .seq vs.toArray }) {b : Addr} {o : Obj} (hb : s.heap.get? b = some o)
    (h1 : ∀ us n, o.data ≠ .seq us n) (h2 : o.data ≠ .fields #[]) : (hidT s.heap H).get? b = some o := hidT_get hb (e.none_at hT ha hb h1 h2)
theorem Entry.nsp (e : Entry K a T ns P w s.heap H) (hT : s.heap.get? T = some tab0) (ha : s.heap.get? a = some { cls := .type "list", data := .seq vs.toArray }) {b : Addr} {m : Str → Option Value} (h : s.heap.Ns b m) : (hidT s.heap H).Ns b m := by
  obtain ⟨o, es, ep, ho, hd, r⟩ := h
  refine ⟨o, es, ep, e.keep hT ha ho (fun us n z => ?_) (fun z => ?_), hd, r⟩ <;> (rw [hd] at z; cases z)
theorem Entry.env (e : Entry K a T ns P w s.heap H) (KX : K.In s.heap) (hns : s.heap.Ns mainGlobals mg) (hb : s.heap.Ns builtinsNs mb) (hbb : ∀ x : Str, x ≠ "__name__" → mb x = bootBuiltins x) (hlim : s.heap.NoLimit) (hg : s.gens = #[])
    (hT : s.heap.get? T = some tab0) (nT : K.lookup T = none) (C : PySem.W.CodeHd s.heap c T)
    (hbm : ∃ (bm : Addr) (ob : Obj), mg "__builtins__" = some (.ref bm) ∧ bm ≠ builtinsNs ∧ s.heap.get? bm = some ob ∧ ob.cls = .type "module" ∧ ob.dict = some builtinsNs ∧ ob.data = .plain)
    (ha : s.heap.get? a = some { cls := .type "list", data := .seq vs.toArray }) :
    K.In (hidT s.heap H) ∧ (hidT s.heap H).Ns mainGlobals mg ∧ TabB (hidT s.heap H) mg c T ∧ Env0 P w K mg (hidT s.heap H) callerA [] s H := by
  have k1 : K.In (hidT s.heap H) := fun b o z => hidT_get (KX b o z) (by
    by_cases hn : H b = none
    · exact hn
    · exfalso
      rcases e.only b hn with y | y
      · rcases e.ata with q | ⟨q, _⟩
        · exact hn (by rw [y]; exact q)
        · rw [y, q] at z; cases z
      · rw [y, nT] at z; cases z)
  have k2 := e.nsp hT ha hns
  have k3 : TabB (hidT s.heap H) mg c T := by
    obtain ⟨o, us, file, tf, flags, tg, inF, text, tt, e1, r1, r2, r3, r4, r5, r6, r7, r8, hne⟩ := C
    obtain ⟨bm, ob, b1, b2, b3, b4, b5, b6⟩ := hbm
    refine ⟨⟨o, us, file, tf, flags, tg, inF, text, tt, e.keep hT ha e1 (fun vs n z => ?_) (fun z => ?_), r1, r2, r3, r4, r5, r6, r7, r8, hne⟩, ⟨bm, ob, b1, b2, fun q => ?_, fun q => ?_, e.keep hT ha b3 (fun vs n z => ?_) (fun z => ?_), b4, b5, b6⟩, fun z => ?_⟩
    · rw [r2] at z; cases z
    · rw [r2] at z; cases z; simp at r3
    · obtain ⟨o', es, ep, ho, hd, _⟩ := hns
      rw [q, ho] at b3
      cases b3
      rw [hd] at b6; cases b6
    · rw [q, hT] at b3
      cases b3
      cases b6
    · rw [b6] at z; cases z
    · rw [b6] at z; cases z
    · obtain ⟨o', es, ep, ho, hd, _⟩ := hns
      rw [z, hT] at ho
      cases ho
      cases hd
  refine ⟨k1, k2, k3, ⟨rfl, ⟨k1, k2, ⟨mb, e.nsp hT ha hb, hbb⟩, ?_⟩, fun b o z => of_hidT z, Nat.le_of_eq (hidT_size _ _), trivial, fun b hb => absurd (show b ∈ ([] : List Addr) from hb) (by simp), e.ok, .of_eq hg⟩⟩
  obtain ⟨mc, q1, q2⟩ := hlim
  exact ⟨mc, e.nsp hT ha q1, q2⟩
/-- behind the law: what stood stands, but that the table may have grown -/
theorem Entry.old {u : Value} {s' : Shared} {Q : VK} (e : Entry K a T ns P w s.heap H) (hT : s.heap.get? T = some tab0) (C : PySem.W.CodeHd s.heap c T) (h : CE [] P w H s Q u s') : OldK s.heap s'.heap := by
  obtain ⟨v, H', os, bare, un, ok', r, q⟩ := h
  obtain ⟨more, z⟩ := un.tbls T #[] e.tab
  have grown : ∃ more, s'.heap.get? T = some { cls := .none, data := .fields more } := ⟨_, ok' T _ z⟩
  have key : ∀ b o, b ≠ T → s.heap.get? b = some o → s'.heap.get? b = some o := fun b o hb ho => by
    by_cases hn : H b = none
    · exact un.keep b o ho hn (by intro z; cases z) (by intro z; cases z)
    · rcases e.only b hn with y | y
      · rcases e.ata with q | ⟨_, ob, xs, q⟩
        · exact absurd (by rw [y]; exact q) hn
        · obtain ⟨f1, _⟩ := e.ok a _ q
          obtain ⟨f2, _⟩ := ok' a _ (un.frzs a ob _ q)
          rw [y] at ho ⊢
          rw [f1] at ho
          cases ho
          exact f2
      · exact absurd y hb
  refine ⟨fun b o ho => ?_, fun b o ho => ?_⟩
  · by_cases hb : b = T
    · obtain ⟨m, hm⟩ := grown
      rw [hb] at ho ⊢
      rw [hT] at ho
      cases ho
      exact .inr (.inl ⟨(C.tab hT).isCodeTable, rfl, #[], m, rfl, by rw [Array.empty_append]; exact hm⟩)
    · exact .inl (key b o hb ho)
  · by_cases hb : b = T
    · obtain ⟨m, hm⟩ := grown
      rw [hb]
      exact ⟨_, hm⟩
    · exact ⟨o, key b o hb ho⟩
end
/-- the claim, from a guarded promise of the law's def over any base -/
theorem walkG {l : PySem.W.OpenLaw} {n k : Nat} {q : Program} {loose : List Str} {XP : (Str → Option Value) → Heap → Prop} {YP : World → Heap → Prop} {d : DefRec} {K : Params → PySem.W.Frag} {x : Str}
    (hn : l.most = some n) (hn2 : n ≤ sizeLine) (hdf : d.params.defaults = []) (hr : Room k callerA) (hY : ∀ (w : World) (h : Heap), YP w h → (K w.params).In h)
    (F : ∀ (w : World) (mg : Str → Option Value) (fa : Addr) (h : Heap), YP w h → (K w.params).In h → h.Ns mainGlobals mg → mg d.name = some (.ref fa) →
      ∃ (fd : FuncData) (c T : Addr) (sp : Sp), h.get? T = some tab0 ∧ (K w.params).lookup T = none ∧ PySem.W.CodeHd h c T ∧ (∀ (s : Shared) (u : Value), BindsTo s fd ⟨[u], []⟩ [(x, u)]) ∧
        (∀ (H : Hp) (a : Addr) (ns : List Int), ns.length ≤ n → (∀ z ∈ ns, Builtin.Int.intBits z ≤ 1048576) → H T = some (.tbl #[]) → SqL (K w.params) H a (ns.map V.int) → sp [.ref a] H (fun v _ => v = .bl true) E0) ∧
        ∀ base : Heap, (K w.params).In base → base.Ns mainGlobals mg → TabB base mg c T → FnG l.prog w (K w.params) mg base k fa fd [x] sp) :
    PySem.W.WalkO q loose XP YP l.row.toRowW d [] (fun f vs => PySem.call f vs) := by
  refine Att.attach_callB hn hdf fun w s₀ s₁ mg mb fa o pm cd doc a vs ns G Y ho hd hcd hmg hobj hints hlen hbits hg => ?_
  have KX := hY w _ Y
  obtain ⟨fd, c, T, sp, hT, nT, C, hb, hsp, hF⟩ := F w mg fa _ Y KX G.T.g hmg
  obtain ⟨H, e⟩ := entry_is (P := l.prog) (w := w) KX hT hobj hints (Nat.le_trans hlen hn2)
  obtain ⟨k1, k2, k3, e0⟩ := e.env KX G.T.g G.T.b G.T.builtins G.T.nolimit hg hT nT C G.T.bmain hobj
  refine codeAny_mono ((hF _ k1 k2 k3).run callerA [] s₁ H ⟨[.ref a], []⟩ [.ref a] [.ref a] _ rfl hr e0 (hb s₁ (.ref a)) (.cons rfl .nil) (hsp H a ns hlen hbits e.tab e.seq)) fun r s' h => ?_
  match r, h with
  | .ok (.ret u), h =>
    have old := e.old hT C h
    obtain ⟨v, H', os, bare, un, ok', r', q⟩ := h
    have q' : v = .bl true := q
    subst q'
    obtain rfl : u = Value.bool true := r'
    exact ⟨rfl, old, os, bare⟩
end K67
/-! enumerate over a tuple. -/
namespace K67
open PySem PySem.Spec PyProof.Rows L2
open AutoSeq1 (wpAny_loadPart')
theorem meets_enum_tup (l : Addr) (o : Obj) (items : Array Value) : Meets (Builtin.«enumerate.__new__» ⟨[.type "enumerate", .ref l], []⟩)
    (fun _ R s => s.heap.get? l = some o ∧ s.heap.IsTuple l items ∧
      R (.ok (.ret (.ref (s.heap.push { cls := .type "tuple_iterator", data := .fields #[.ref l, .int 0 0] }).objs.size)))
        { s with heap := (s.heap.push { cls := .type "tuple_iterator", data := .fields #[.ref l, .int 0 0] }).push { cls := .type "enumerate", data := .fields #[.none, .bool false, .ref s.heap.objs.size, rawInt 0, .none, .none] } }) :=
  .of_wp fun prog w A R s h => by
    obtain ⟨hp, g, d, tk, os⟩ := s
    obtain ⟨hl, hT, h⟩ := h
    have hsub := sub_enumerate
    have hT' : Heap.IsTuple (Shared.heap ⟨hp, g, d, tk, os⟩) l items := hT
    wp_walk using wpAny_loadPart' hl
    refine wpAny_stack_any fun st => wpAny_pure ?_
    split
    · rename_i c _ _ _ _ _
      cases (c == Value.type "enumerate") <;> (wp_walk using wpAny_loadPart' hl, wpAny_pyIter_tuple hT'; exact ⟨_, rfl, h⟩)
    · wp_walk using wpAny_loadPart' hl, wpAny_pyIter_tuple hT'
      exact ⟨_, rfl, h⟩
section
variable {prog : Program} {w : World} {A : Around} {E : Value → Shared → Prop} {s : Shared}
theorem call_enum_tup {l : Addr} {items : Array Value} {Q : Value → Shared → Prop} (hL : s.heap.IsTuple l items)
    (h : ∀ h', IsEnum h' (s.heap.objs.size + 1) s.heap.objs.size 0 .none → h'.IsTupleIter s.heap.objs.size l 0 →
      (∀ b o, s.heap.get? b = some o → h'.get? b = some o) → Q (.ref (s.heap.objs.size + 1)) { s with heap := h' }) :
    wpAny (model prog w) A (call (.type "enumerate") [.ref l]) Q E s := by
  obtain ⟨o, hl, _⟩ := id hL
  refine callType_new F.called_enumerate (by decide) (F.typeCall_enumerate_1 _) (F.newCall_enumerate_1 _) (fun obj => F.args_object_init_2 obj _) F.entry_enumerate_new
    (meets_enum_tup l o items) ⟨hl, hL, ?_⟩
  have hz : (s.heap.push { cls := .type "tuple_iterator", data := .fields #[.ref l, .int 0 0] }).objs.size = s.heap.objs.size + 1 := Heap.size_push ..
  have q := Heap.get?_push_size (s.heap.push { cls := .type "tuple_iterator", data := .fields #[.ref l, .int 0 0] })
    (o := { cls := .type "enumerate", data := .fields #[.none, .bool false, .ref s.heap.objs.size, rawInt 0, .none, .none] }) rfl
  show _ ∧ _
  rw [hz] at q ⊢
  have he : IsEnum ((s.heap.push { cls := .type "tuple_iterator", data := .fields #[.ref l, .int 0 0] }).push
      { cls := .type "enumerate", data := .fields #[.none, .bool false, .ref s.heap.objs.size, rawInt 0, .none, .none] }) (s.heap.objs.size + 1) s.heap.objs.size 0 .none := q
  exact ⟨⟨_, he, rfl⟩, h _ he ⟨_, Heap.get?_push_of_some _ (Heap.get?_push_size _ rfl), rfl, rfl⟩ fun b o x => Heap.get?_push_of_some _ (Heap.get?_push_of_some _ x)⟩
end
/-- the tuple at a, each item in a new pair with its number -/
def ItE (K : PySem.W.Frag) (a : Addr) : It where
  go i H := ∃ (xs : List V) (x : V), SqT K H a xs ∧ xs[i]? = some x
  yld i H v H' := ∃ T x, v = .ref T ∧ H T = none ∧ H' = upd H T (.tup [.int (i : Nat), x]) ∧ ∀ xs, SqT K H a xs → xs[i]? = some x
  stop i H := ∃ xs : List V, SqT K H a xs ∧ xs.length = i
theorem turn_enumT {P : Program} {w : World} {K : PySem.W.Frag} {elts : List Expr} {kk : Nat} {tpos : Pos} (a e it : Addr) :
    Turn P w K (.Tuple elts kk tpos) (ItE K a) [e, it] e (fun i h => (∃ old, IsEnum h e it ((i : Nat) : Int) old) ∧ h.IsTupleIter it a i ∧ e ≠ it ∧ a ≠ it ∧ a ≠ e) where
  mem := by simp
  obj := fun i h st b hb => by
    obtain ⟨⟨old, he⟩, ⟨o, ho, hc, hd⟩, _⟩ := st
    rcases (show b = e ∨ b = it by simpa using hb) with rfl | rfl
    · exact ⟨_, he, fun v q => nomatch q⟩
    · exact ⟨o, ho, fun v q => by rw [hd] at q; cases q⟩
  keep := fun i h h' st k => by
    obtain ⟨⟨old, he⟩, hi, hne⟩ := st
    exact ⟨⟨old, k e (by simp) _ he⟩, hi.at fun o q => k it (by simp) o q, hne⟩
  item := by
    intro X hP hw hK hc i pins s σ H E I hf st hg
    subst hP hw hK
    obtain ⟨⟨old, he⟩, hit, hne, hai, hae⟩ := st
    obtain ⟨xs, x, hq, hx⟩ := hg
    obtain ⟨its, rv, p, hz⟩ := I.tuple hq
    obtain ⟨u, hu, ru⟩ := rv.get hx
    have hel : e < s.heap.objs.size := Heap.lt_size he
    have hil : it < s.heap.objs.size := by obtain ⟨_, q, _⟩ := hit; exact Heap.lt_size q
    have hlt : i < its.toArray.size := by
      obtain ⟨z, _⟩ := List.getElem?_eq_some_iff.mp hu
      simpa using z
    refine wpAny_pyNext_enum_itemD (Draws.tuple (prog := X.prog) (w := X.w) (A := X.A.in1) (I.ok.hd hc) it a hai its.toArray) he ⟨hit, p⟩ hlt hne (by simp [hne, Ne.symm hae]) fun y h' tk hy ho st' hT hsz hk => ?_
    have hyu : y = u := by
      have e1 : its[i]? = some y := by simpa using hy
      rw [hu] at e1
      exact (Option.some.inj e1).symm
    subst hyu
    refine ⟨_, rfl, wpAny_letOwnedTupleGo_enum (s := { s with heap := h', toks := tk + 1 }) ho fun h'' he' sb => ?_⟩
    have hT2 : h''.get? s.heap.objs.size = some { cls := .type "tuple", data := .seq #[.int i tk, y] } := (sb.2 _ (Nat.ne_of_gt hel)).trans hT
    have new : ObjOk X.prog X.w (upd H s.heap.objs.size (.tup [.int (i : Nat), x])) h'' s.heap.objs.size (.tup [.int (i : Nat), x]) :=
      ⟨by show 2 ≤ sizeLine; decide, [.int i tk, y], .cons ⟨_, rfl⟩ (.cons ru .nil), ⟨_, hT2, rfl, _, rfl⟩⟩
    have I1 : Inv X pins σ (upd H s.heap.objs.size (.tup [.int (i : Nat), x])) { s with heap := h'', toks := tk + 1 } :=
      I.turnedNew (ch := [e, it]) (fun b ob hb q => (sb.2 b (fun z => hb (by simp [z]))).trans (hk b ob (fun z => hb (by simp [z])) (fun z => hb (by simp [z])) q)) hf (Nat.le_refl _) new
    refine ⟨.ref s.heap.objs.size, _, I1, rfl, ⟨_, x, rfl, I.hok.fresh (Nat.le_refl _), rfl, fun ys hy => by rw [I.tuple_inj hy hq]; exact hx⟩, ⟨⟨y, ?_⟩, st'.1.at fun o q => (sb.2 it (Ne.symm hne)).trans q, hne, hai, hae⟩, fun b hb => ?_⟩
    · have e1 : ((i + 1 : Nat) : Int) = (i : Int) + 1 := by omega
      rw [e1]; exact he'
    · have hb' : b < s.heap.objs.size := by
        rcases (show b = e ∨ b = it by simpa using hb) with z | z
        · rw [z]; exact hel
        · rw [z]; exact hil
      rw [upd_ne (Nat.ne_of_lt hb')]
      exact (hf b hb).1
  done := by
    intro X hP hw hK hc i pins s σ H E I hf st hg
    subst hP hw hK
    obtain ⟨⟨old, he⟩, hit, hne, hai, hae⟩ := st
    obtain ⟨xs, hq, hx⟩ := hg
    obtain ⟨its, rv, p, hz⟩ := I.tuple hq
    obtain ⟨f0, f1, f2, f3, f4, f5⟩ := hf it (by simp)
    have hl := rv.length
    have hn : its.toArray.size = i := by rw [List.size_toArray]; omega
    refine wpAny_pyNext_enum_endD (Draws.tuple (prog := X.prog) (w := X.w) (A := X.A.in1) (I.ok.hd hc) it a hai its.toArray) he (by rw [hn]; exact ⟨hit, p⟩) fun h' eb => ?_
    exact ⟨rfl, I.turned (t' := s.toks) (fun b o hb q => eb b o hb q) f0 f1 f3 f4 f5⟩
  self := fun A i s Q E st h => let ⟨⟨_, he⟩, _⟩ := st; wpAny_pyIter_enum he h
def iEnumT (K : PySem.W.Frag) (ta : TA) : TI := fun σ H R => ta σ H fun vs H1 => ∃ a xs, vs = [.ref a] ∧ SqT K H1 a xs ∧ R (ItE K a) H1
theorem pi_enumT {X : Cx} {e : Expr} {ta : TA} {p pos tpos : Pos} {elts : List Expr} {kk : Nat} (hg : Gl X "enumerate") (hm : X.mg "enumerate" = none) (ha : PA X [e] ta)
    (hs : starEach [e] X.env = [(false, eval e X.env)] := by rfl) : PI X (.Tuple elts kk tpos) (.Call (.Name "enumerate" p) [e] [] pos) (iEnumT X.K ta) := by
  refine ⟨fun pins s σ H R I h => ?_⟩
  refine Call_ (ld_blt I hg hm boot_enumerate (PyProof.Rows.callWith_type1 (thn (ha.run pos pins s σ H _ I h) fun us s1 ⟨vs, H1, I1, r1, q1⟩ => ?_) hs rfl))
  obtain ⟨a, xs, rfl, hq, q⟩ := q1
  cases r1 with
  | cons r rr =>
    cases rr
    cases r
    obtain ⟨its, rv, p', hz⟩ := I1.tuple hq
    refine call_enum_tup p' fun h' he hit hk => wpAny_pyIter_enum he ?_
    have I2 : Inv X pins σ H1 { s1 with heap := h' } := I1.kept (t' := s1.toks) hk
    have hal : a < s1.heap.objs.size := by obtain ⟨o, z, _⟩ := p'; exact Heap.lt_size z
    refine ⟨s1.heap.objs.size + 1, [s1.heap.objs.size + 1, s1.heap.objs.size], _, _, H1, rfl, I2, turn_enumT a (s1.heap.objs.size + 1) s1.heap.objs.size,
      ⟨⟨.none, he⟩, hit, Nat.succ_ne_self _, Nat.ne_of_lt hal, Nat.ne_of_lt (Nat.lt_succ_of_lt hal)⟩, fun b hb => ?_, q⟩
    have hle : s1.heap.objs.size ≤ b := by
      rcases (show b = s1.heap.objs.size + 1 ∨ b = s1.heap.objs.size by simpa using hb) with z | z
      · rw [z]; exact Nat.le_add_right _ _
      · rw [z]; exact Nat.le_refl _
    exact I1.fpOk hle (I1.hok.fresh hle)
theorem walk_enumT {K : PySem.W.Frag} {a : Addr} {xs : List V} : Walk (ItE K a) xs.length (fun H => SqT K H a xs) (YPair (fun i => some (.int (i : Nat))) (fun i => xs[i]?)) := by
  refine ⟨fun i _ hi q => ⟨xs, xs[i], q, by simp [hi]⟩, fun _ q => ⟨xs, q, rfl⟩, fun i H v H' _ q y => ?_⟩
  obtain ⟨T, x, h1, h2, h3, h4⟩ := y
  exact ⟨T, .int (i : Nat), x, h1, h2, h3, rfl, h4 xs q⟩
end K67
/-! set(list(d.values())) and its len, the values unlike texts. -/
namespace K67
open PySem PySem.Spec PyProof.Rows L2
section
variable {prog : Program} {w : World} {A : Around} {R : Result → Shared → Prop}
/-- the texts met so far -/
abbrev Met (xs : List Str) (i : Nat) : Str → Bool := fun k => (xs.take i).any (· == k)
theorem met_new {xs : List Str} {i : Nat} {x : Str} (hx : xs[i]? = some x) (nd : xs.Nodup) : Met xs i x = false := by
  show (xs.take i).any (· == x) = false
  rw [List.any_eq_false]
  intro y hy e
  have e2 : y = x := beq_iff_eq.mp e
  subst e2
  obtain ⟨j, hj, ej⟩ := List.getElem_of_mem hy
  rw [List.length_take] at hj
  have h1 : xs[j]? = some y := by
    rw [List.getElem?_eq_getElem (by omega)]
    rw [List.getElem_take] at ej
    rw [ej]
  have := (List.getElem?_inj (i := j) (j := i) (l := xs) (by omega) nd).mp (h1.trans hx.symm)
  omega
theorem met_next {xs : List Str} {i : Nat} {x : Str} (hx : xs[i]? = some x) (k : Str) : (Met xs i k || decide (k = x)) = Met xs (i + 1) k := by
  show ((xs.take i).any (· == k) || decide (k = x)) = (xs.take (i + 1)).any (· == k)
  rw [List.take_add_one, hx, List.any_append]
  congr 1
  by_cases e : k = x
  · subst e; simp
  · have hb : (x == k) = false := by simpa [beq_iff_eq] using (fun q : x = k => e q.symm)
    simp [e, hb]
theorem texts_loop {I S : Addr} {fp wr : List Addr} {G : Array GenState → Array GenState → Prop} {n : Nat} {P : Nat → Value → Prop} {St : Nat → Shared → Prop} (W : WalksS prog w A.in1 I fp wr G n P St) (hS : S ∉ fp) {xs : List Str}
    (hn : xs.length = n) (hb : n + 1 < scanBound) (nd : xs.Nodup) (hv : ∀ i v, P i v → ∃ x t, xs[i]? = some x ∧ v = .str x t) :
    ∀ (m i : Nat) (s : Shared), i + m = n → St i s → s.heap.SetOf (PySem.strKind prog w) S (Met xs i) i →
      (∀ s', Moved (S :: wr) G s s' → s'.heap.SetOf (PySem.strKind prog w) S (Met xs n) n → R (.ok (.ret .none)) s') →
      codeAny (model prog w) A (.builtin "set.update.loop" ⟨[.ref S, .ref I], []⟩) R s := by
  have hw : S ∉ wr := fun z => hS (W.sub _ z)
  have up : ∀ b ∈ wr, b ∈ S :: wr := fun b hb => List.mem_cons_of_mem _ hb
  have carry : ∀ {i : Nat} {s s' : Shared}, s.heap.SetOf (PySem.strKind prog w) S (Met xs i) i → Moved wr G s s' → s'.heap.SetOf (PySem.strKind prog w) S (Met xs i) i := fun h hm => by
    obtain ⟨o, es, ep, t, ho, r⟩ := h
    exact ⟨o, es, ep, t, hm.heap S _ hw ho, r⟩
  intro m
  induction m with
  | zero =>
    intro i s hi hst hs hR
    obtain rfl : i = n := hi
    refine codeAny_builtin PyProof.Rows.F.entry_set_update_loop ?_
    rw [Around.under_plainId PyProof.Rows.F.plain_set_update_loop _]
    show wpAny _ A.in1 (pyNext (.ref I) >>= _) _ _ s
    refine wpAny_bind (W.done s _ _ hst fun s' hm => ?_)
    show wpAny _ A.in1 (ret Value.none) _ _ s'
    exact wpAny_pure (hR s' (hm.mono up) (carry hs hm))
  | succ m ih =>
    intro i s hi hst hs hR
    refine codeAny_builtin PyProof.Rows.F.entry_set_update_loop ?_
    rw [Around.under_plainId PyProof.Rows.F.plain_set_update_loop _]
    show wpAny _ A.in1 (pyNext (.ref I) >>= _) _ _ s
    refine wpAny_bind (W.item i s _ _ (by omega) hst fun v s' hP hst' hm => ?_)
    obtain ⟨x, t, hx, rfl⟩ := hv i v hP
    have hs1 : s'.heap.SetOf (PySem.strKind prog w) S (Met xs i) i := carry hs hm
    show wpAny _ A.in1 (holding [Value.str x t] (setAdd S (.str x t)) >>= _) _ _ s'
    refine wpAny_bind (wpAny_holding ?_)
    unfold setAdd
    refine wpAny_holding (wpAny_bind ((PySem.strKind prog w).pyHash (k := x) (strKind_is _ _ _ _) ?_))
    refine wpAny_setAddHashed_of (knd := PySem.strKind prog w) (s := { s' with toks := s'.toks + 1 }) (strKind_is _ _ _ _) rfl hs1 (by omega) fun h' sb h2 => ?_
    have h3 : h'.SetOf (PySem.strKind prog w) S (Met xs (i + 1)) (i + 1) := SetOf_congr h2 (met_next hx) (by rw [met_new hx nd]; rfl)
    refine wpAny_pure ⟨plainId_quiet PyProof.Rows.F.plain_set_update_loop _, ih (i + 1) _ (by omega) (W.frame _ s' _ _ hst' (Nat.le_succ _) fun b hb o e => ?_) h3 fun s'' hm2 hs2 => ?_⟩
    · rw [sb.2 b fun z : b = S => hS (by rw [← z]; exact hb)]
      exact e
    · refine hR s'' (Moved.trans W.gtrans ((hm.mono up).then_heap (Nat.le_succ _) fun b o hb e => ?_) hm2) hs2
      rw [sb.2 b fun z : b = S => hb (by rw [z]; exact List.mem_cons_self)]
      exact e
end
section
variable {prog : Program} {w : World} {A : Around} {E : Value → Shared → Prop} {s : Shared}
/-- a fresh set -/
abbrev set0 (led : Bool) : Obj := { cls := .type "set", dict := none, data := .set #[] 0 (.fresh 0 0 led) }
theorem call_set_texts {l : Addr} {items : Array Value} {xs : List Str} {Q : Value → Shared → Prop} (hh : A.handled = none) (hl : s.heap.IsList l items) (hi : StrsAre items.toList xs) (hb : xs.length + 1 < scanBound) (nd : xs.Nodup)
    (h : ∀ (h' : Heap) (tk : Nat), h'.SetOf (PySem.strKind prog w) s.heap.objs.size (Met xs xs.length) xs.length → (∀ b o, s.heap.get? b = some o → h'.get? b = some o) →
      Q (.ref s.heap.objs.size) { s with heap := h', toks := tk }) : wpAny (model prog w) A (call (.type "set") [.ref l]) Q E s := by
  have hsz : items.size = xs.length := by rw [← StrsAre.len_eq hi, Array.length_toList]
  obtain ⟨c, tl, hmro⟩ := PySem.F.called_set.mro
  have hmade := PySem.F.called_set.made
  have hsub := PySem.F.called_set.sub
  refine wpAny_call (codeAny_of_tree ?_)
  show wpAny _ _ (callAny (.type "set") _) _ _ _
  refine wpAny_pure ⟨Code.quiet_builtin _ (by decide +kernel), codeAny_builtin PySem.F.entry_type_call ?_⟩
  rw [Around.under_plain (weight_type_call_type "set" [.ref l] []) rfl]
  have h1 := PySem.F.called_set.notType
  have h2 := PySem.F.called_set.canCreate
  have hct := PySem.F.typeCall_set_1 (.ref l)
  repeat (any_goals (first | assumption | wp_step))
  refine codeAny_mono (code_set_new_1 (.ref l) (E := E) (Q₁ := fun obj s₁ => ∃ led : Bool, obj = .ref s.heap.objs.size ∧ s₁ = { s with heap := s.heap.push (set0 led) }) fun led => ⟨led, rfl, rfl⟩) fun r s₁ hr => ?_
  match r, hr with
  | .error e, hr => exact hr
  | .ok .next, hr => exact hr.elim
  | .ok .brk, hr => exact hr.elim
  | .ok .cont, hr => exact hr.elim
  | .ok (.ret obj), hr =>
    obtain ⟨led, rfl, rfl⟩ := hr
    have hS : (s.heap.push (set0 led)).get? s.heap.objs.size = some (set0 led) := Heap.get?_push_size _ rfl
    have hT : Shared.TypeIs { s with heap := s.heap.push (set0 led) } (.ref s.heap.objs.size) "set" := ⟨_, hS, rfl⟩
    have hli := PySem.F.called_set.init.lookup
    have hbi := PySem.F.called_set.init.bind (.ref s.heap.objs.size)
    repeat (any_goals (first | assumption | wp_step))
    refine codeAny_mono (codeAny_call_builtin (R := wants (fun r s₂ => r = .none ∧ ∃ h' tk, s₂ = { s with heap := h', toks := tk } ∧ h'.SetOf (PySem.strKind prog w) s.heap.objs.size (Met xs xs.length) xs.length ∧
        (∀ b o, s.heap.get? b = some o → h'.get? b = some o)) E) PySem.F.called_set.init.plain PySem.F.entry_set_init (check_set_init_1 hT ?_)) fun r₂ s₂ hr₂ => ?_
    · obtain ⟨⟨ocls, odict, odata, oslots⟩, hol, hcl, nl, hdl⟩ := hl
      simp only at hcl hdl
      subst hcl hdl
      have hol' : (s.heap.push (set0 led)).get? l = some { cls := .type "list", dict := odict, data := .seq items nl, slots := oslots } := Heap.get?_push_of_some _ hol
      have hsls := PySem.F.sub_list_set
      have hslf := PySem.F.sub_list_frozenset
      have hne : (Value.type "list" == Value.type "dict") = false := by decide
      have hl1 : (s.heap.push (set0 led)).IsList l items := ⟨_, hol', rfl, nl, rfl⟩
      unfold Builtin.«set.__init__» noKeywords Builtin.Frozenset.updateFrom
      generalize hPI : pyIter = PI
      wp_walk
      subst hPI
      refine wpAny_pyIter_list hl1 (wpAny_bind (wpAny_runValue ?_))
      have hlS : l < s.heap.objs.size := Heap.lt_size hol
      have hz : (s.heap.push (set0 led)).objs.size = s.heap.objs.size + 1 := Heap.size_push ..
      have hneI : l ≠ (s.heap.push (set0 led)).objs.size := by rw [hz]; exact Nat.ne_of_lt (Nat.lt_succ_of_lt hlS)
      have hSf : s.heap.objs.size ∉ [(s.heap.push (set0 led)).objs.size, l] := by
        rw [hz]
        simp only [List.mem_cons, List.not_mem_nil, or_false, not_or]
        exact ⟨Nat.ne_of_lt (Nat.lt_succ_self _), Nat.ne_of_gt hlS⟩
      have hval : ∀ (i : Nat) (v : Value), items[i]? = some v → ∃ x t, xs[i]? = some x ∧ v = .str x t := fun i v hv => by
        have hi' : i < xs.length := by rw [← hsz]; exact (Array.getElem?_eq_some_iff.mp hv).1
        obtain ⟨t, e⟩ := SS.strs_at hi i v (by rw [Array.getElem?_toList]; exact hv)
        refine ⟨xs[i], t, List.getElem?_eq_getElem hi', ?_⟩
        rw [e, List.getD_eq_getElem?_getD, List.getElem?_eq_getElem hi']
        rfl
      refine texts_loop ((Walks.list (by simp [hh]) _ l hneI items).toS) hSf hsz.symm (by omega) nd hval items.size 0 _ (by omega) ⟨⟨_, Heap.get?_push_size _ rfl, rfl, rfl⟩, hl1.push _⟩ ?s0 fun s' hm hS' => ?sR
      case s0 =>
        have hget : ((s.heap.push (set0 led)).push { cls := .type "list_iterator", data := .fields #[.ref l, .int 0 0] }).get? s.heap.objs.size = some (set0 led) := Heap.get?_push_of_some _ hS
        exact SetOf_congr ((setObjOf_fresh (knd := PySem.strKind prog w) led).setOf hget (by unfold scanBound; omega)) (fun _ => rfl) rfl
      case sR =>
        obtain ⟨h', g', d', tk', os'⟩ := s'
        have eg : g' = s.gens := hm.gens
        have ed : d' = s.drawn := hm.drawn
        have eo : os' = s.os := hm.os
        subst eg ed eo
        show wpAny _ _ _ _ _ _
        refine wpAny_pure ?_
        show wpAny _ _ (ret Value.none) _ _ _
        rw [hsz] at hS'
        refine wpAny_pure ⟨rfl, h', tk', rfl, hS', fun b o e => ?_⟩
        have hbl := Heap.lt_size e
        refine hm.heap b o ?_ (Heap.get?_push_of_some _ (Heap.get?_push_of_some _ e))
        simp only [List.mem_cons, List.not_mem_nil, or_false, not_or]
        exact ⟨Nat.ne_of_lt hbl, by rw [hz]; exact Nat.ne_of_lt (Nat.lt_succ_of_lt hbl)⟩
    · match r₂, hr₂ with
      | .error e, hr₂ => exact hr₂
      | .ok .next, hr₂ => exact hr₂.elim
      | .ok .brk, hr₂ => exact hr₂.elim
      | .ok .cont, hr₂ => exact hr₂.elim
      | .ok (.ret r), hr₂ =>
        obtain ⟨rfl, h', tk, rfl, hS', hk'⟩ := hr₂
        repeat (any_goals (first | assumption | wp_step))
        exact h _ _ hS' hk'
end
end K67
/-! list(d.values()) and len(set(xs)) as rules of the layer. -/
namespace K67
open PySem PySem.Spec PyProof.Rows L2
/-- len(set(xs)), xs a list of unlike texts -/
def tLenSetT (K : PySem.W.Frag) (ta : TE) : TE := fun σ H Q => ta σ H fun x H1 => ∃ (l : Addr) (xs : List Str), x = V.ref l ∧ SqL K H1 l (xs.map V.str) ∧ xs.length + 1 < scanBound ∧ xs.Nodup ∧ Q (.int xs.length) H1
theorem pe_lenSetT {X : Cx} {a : Expr} {ta : TE} {p p2 q pos : Pos} (hg : Gl X "len") (hm : X.mg "len" = none) (hg2 : Gl X "set") (hm2 : X.mg "set" = none) (ha : PE X a ta) (hc : X.calm = true := by rfl)
    (na : starEach [a] X.env = (false, eval a X.env) :: starEach [] X.env := by rfl) : PE X (.Call (.Name "len" p) [.Call (.Name "set" p2) [a] [] q] [] pos) (tLenSetT X.K ta) := by
  refine ⟨fun pins s σ H Q I h => ?_⟩
  refine Call_ (ld_blt I hg hm PySem.boot_len ?_)
  refine PyProof.Rows.callWith_builtin1 (PyProof.Rows.args_cons ?_ rfl) rfl rfl
  refine Call_ (ld_blt I hg2 hm2 PyProof.Rows.boot_set ?_)
  refine PyProof.Rows.callWith_type1 (PyProof.Rows.args_cons (thn (ha.run pins s σ H _ I h) fun v s1 ⟨x, H1, I1, r1, q1⟩ => PyProof.Rows.args_nil ?_) na) na rfl
  obtain ⟨l, xs, rfl, hq, hl, hnd, q1⟩ := q1
  cases r1
  obtain ⟨its, r, pl, hz⟩ := I1.list hq
  refine call_set_texts (xs := xs) (I1.ok.hd hc) pl.isList (by simpa using L2.strsAre_of r) hl hnd fun h' tk hS hk => ?_
  refine PyProof.Rows.args_nil ?_
  obtain ⟨o, es, ep, t, ho, hex, hd, _, _, _, hf, hn⟩ := hS
  have I2 : Inv X pins σ H1 { s1 with heap := h', toks := tk } := I1.kept hk
  exact call_len_set ho hex hd hf (by rw [hn]; unfold scanBound at hl; omega) ⟨.int xs.length, H1, I2.tok _, ⟨_, by rw [hn]⟩, q1⟩
/-- list(d.values()) -/
def tListVals (td : TE) : TE := fun σ H Q => td σ H fun x H1 => ∃ (d : Addr) (kvs : List (Key × V)), x = V.ref d ∧ H1 d = some (.dK kvs) ∧ ∀ p, H1 p = none → Q (.ref p) (upd H1 p (.lst (kvs.map (·.2))))
theorem vals_of_items : ∀ {kvs : List (Key × V)} {vs : List (Key × Value)}, KV kvs vs → ∀ {us : List Value}, us.length = kvs.length → (∀ (i : Nat) (u : Value), us[i]? = some u → ∀ (k : Key) (v : Value), vs[i]? = some (k, v) → u = v) → Vals (kvs.map (·.2)) us
  | _, _, .nil, [], _, _ => .nil
  | _, _, .nil, _ :: _, hl, _ => by cases hl
  | _, _, .cons _ _, [], hl, _ => by cases hl
  | (k0, x) :: kvs, (k, v) :: vs, .cons r t, u :: us, hl, h => by
    have e : u = v := h 0 u rfl k v rfl
    subst e
    exact .cons r.2 (vals_of_items t (by simpa using hl) fun i u' hu k v hv => h (i + 1) u' (by simpa using hu) k v (by simpa using hv))
theorem pe_listVals {X : Cx} {e : Expr} {td : TE} {p pos apos cpos : Pos} (hg : Gl X "list") (hm : X.mg "list" = none) (he : PE X e td) (hc : X.calm = true := by rfl)
    (hbase : attributeBase e "values" X.env (eval e X.env) = eval e X.env := by rfl) (hline : (apos.endLine == cpos.line) = true := by rfl) :
    PE X (.Call (.Name "list" p) [.Call (.Attribute e "values" apos) [] [] cpos] [] pos) (tListVals td) := by
  refine ⟨fun pins s σ H Q I h => ?_⟩
  refine Call_ (ld_blt I hg hm PyProof.Rows.boot_list ?_)
  refine PyProof.Rows.callWith_type1 (PyProof.Rows.args_cons ?_ rfl) rfl rfl
  refine wpAny_Call_method (T := "dict") (id := "dict.values") hbase rfl hline F.plainAttrs_dict F.slot_dict_values F.type_dict_values (thn (he.run pins s σ H _ I h) fun u s1 ⟨x, H1, I1, rx, d, kvs, ex, ha, q⟩ => ?_)
  subst ex
  obtain rfl : u = Value.ref d := rx
  obtain ⟨z, hs, vs, kv, dd⟩ := dk_of I1.hok ha
  obtain ⟨es, ep, hr, hsz, hv⟩ := dd.raw
  refine ⟨dd.typeIs, dd.mapOf.noDict, ?_⟩
  have view : (s1.heap.push { cls := .type "dict_values", data := .fields #[.ref d] }).IsValuesView s1.heap.objs.size d := ⟨_, Heap.get?_push_size _ rfl, rfl, rfl⟩
  have raw2 : (s1.heap.push { cls := .type "dict_values", data := .fields #[.ref d] }).DictRaw d es ep := hr.at fun o e => Heap.get?_push_of_some _ e
  have hlen : kvs.length = vs.length := Paired.length kv
  have fin : wpAny (model X.prog X.w) X.A (call (.type "list") [.ref s1.heap.objs.size]) (EP X pins σ Q) X.xe { s1 with heap := s1.heap.push { cls := .type "dict_values", data := .fields #[.ref d] } } := by
    refine PySem.W.kdl_call (KdlSrc.rawValues) (I1.ok.hd hc) ⟨view, raw2⟩ (by omega) fun h' tk acc' c' hk hD hacc => ?_
    have hz1 : (s1.heap.push { cls := .type "dict_values", data := .fields #[.ref d] }).objs.size = s1.heap.objs.size + 1 := Heap.size_push ..
    have hle : s1.heap.objs.size ≤ (s1.heap.push { cls := .type "dict_values", data := .fields #[.ref d] }).objs.size := by rw [hz1]; exact Nat.le_succ _
    have hf : H1 (s1.heap.push { cls := .type "dict_values", data := .fields #[.ref d] }).objs.size = none := I1.hok.fresh hle
    refine ⟨.ref _, upd H1 (s1.heap.push { cls := .type "dict_values", data := .fields #[.ref d] }).objs.size (.lst (kvs.map (·.2))), I1.laid (t' := tk) (fun b o e => hk b o (Heap.get?_push_of_some _ e)) hle ?_, rfl, q _ hf⟩
    refine ⟨by rw [List.length_map]; exact z, acc'.toList, c', vals_of_items kv ?_ fun i u hu k v hv' => ?_, by simpa using hD⟩
    · rw [Array.length_toList, hacc.1, hsz]; exact hlen.symm
    · obtain ⟨hi, e⟩ := hacc.2 i u (by rw [← Array.getElem?_toList]; exact hu)
      rw [e]
      exact (hv i hi k v hv').2
  show wpAny _ _ (callWith cpos (.builtin "dict.values") [.ref d] [] []) _ X.xe s1
  exact method_meetsIn F.slot_dict_values F.entry_dict_values rfl (PySem.evalArgs_none ⟨rfl, dd.typeIs, F.args_dict_values_1 _, _, meets_dict_values_raw d hs, ⟨es, ep, hr⟩, PyProof.Rows.args_nil fin⟩)
end K67
/-! An own error whose __init__ calls super().__init__ with a text and stores one field: made, raised. The class stands over another own class over ValueError. -/
namespace K67
open PySem PySem.W PySem.Calls PyProof.Rows PySem.HandSPX
/-! ### the text of __init__ -/
def gA : Arguments := { posonlyargs := [], args := [{ arg := "self", annotation := none, pos := ⟨19, 17, 19, 21⟩ }, { arg := "most", annotation := none, pos := ⟨19, 23, 19, 27⟩ }], vararg := none, kwonlyargs := [], kw_defaults := [], kwarg := none, defaults := [] }
def gB : List Stmt :=
  [.Expr (.Call (.Attribute (.Call (.Name "super" ⟨20, 8, 20, 13⟩) [] [] ⟨20, 8, 20, 15⟩) "__init__" ⟨20, 8, 20, 24⟩) [.Constant (.str "too much") 0 ⟨20, 25, 20, 35⟩] [] ⟨20, 8, 20, 36⟩) ⟨20, 8, 20, 36⟩,
    .Assign [.Attribute (.Name "self" ⟨21, 8, 21, 12⟩) "most" ⟨21, 8, 21, 17⟩] (.Name "most" ⟨21, 20, 21, 24⟩) ⟨21, 8, 21, 24⟩]
def gS : Scope := { kind := .function, names := [(PySem.Str.ofString "self", .local), (PySem.Str.ofString "most", .local), (PySem.Str.ofString "__class__", .free), (PySem.Str.ofString "super", .globalImplicit)], isGenerator := false, isCoroutine := false, more := [] }
/-- what the written part says of TooGreat, at C, and of its __init__, at fI -/
structure GreatTxt (P : Program) (K : Frag) (mg : Str → Option Value) (C fI : Addr) : Prop where
  gC : mg "TooGreat" = some (.ref C)
  gS : mg "super" = none
  cls : ∃ nm q N bs bm sn sub ab col dd k0 k1 k2 k3 k5, K.lookup C = some (excClassObj nm q C N bs bm true sn sub ab col dd k0 k1 k2 k3 k5 "ValueError.__new__") ∧ refsVE bm = true
  sa : findIn K (.ref C) "__setattr__" = some (some (.builtin "object.__setattr__"))
  ga : findIn K (.ref C) "__getattribute__" = some (some (.builtin "BaseException.__getattribute__"))
  gg : findIn K (.ref C) "__getattr__" = some none
  noN : findIn K (.ref C) "most" = some none
  iC : findIn K (.ref C) "__init__" = some (some (.ref fI))
  tC : typeIn K (.ref fI) = some (.type "function")
  kC : keepIn K (.ref C) = true
  exC : subIn K (.ref C) (.type "BaseException") = some true
  veC : subIn K (.ref C) (.type "ValueError") = some true
  meC : mroIn K C (.ref C) = some true
  suC : ks_superIn K C C "__init__" = some (some (.builtin "ValueError.__init__"))
  tyC : typeIn K (.ref C) = some (.type "type")
  hdC : hasDictIn K C = true
  te : exmOne K (.ref C) (.ref C) = some true
  opq : nsIn K cStatics "thirdparty.any" = some none
  top : (P.main.scope.names.lookup ("super" : Str)).isSome = false
  fn : ∃ (oc : Value) (od : Option Addr) (doc pm : Value) (an : Option Addr) (cda cc : Addr) (ct : Value) (osl : Array (Option Value)),
    K.lookup fI = some ⟨oc, od, .func (ksFn "__init__" "TooGreat.__init__" gA gB K67.gS .none .none doc pm an (.ref cda) ct cc), osl⟩ ∧ codeIn K (.ref cda) "TooGreat.__init__" = true ∧
    (∃ cl cld csl, K.lookup cc = some ⟨cl, cld, .cell (some (.ref C)), csl⟩) ∧
    ∃ ccl cdd vs ccs file tf, K.lookup cda = some ⟨ccl, cdd, .fields vs, ccs⟩ ∧ vs[2]? = some (.str file tf) ∧ ((P.main.file : Str) == file) = true
theorem one_size (v : Value) : [v].length ≤ sizeLine := by
  rw [sizeLine_eq]
  exact (by decide : 1 ≤ 16777216)
/-- what __init__ leaves of a fresh exception at x -/
structure InitEnd (h h' : Heap) (x C dx t1 : Addr) (v : Value) : Prop where
  keep : ∀ b o, b ≠ x → h.get? b = some o → h'.get? b = some o
  obj : h'.get? x = some { cls := .ref C, dict := some dx, data := .fields #[.ref t1, .none, .none, .none, .bool false, .none] }
  dbig : h.objs.size ≤ dx
  dne : dx ≠ x
  ns : h'.Ns1 dx (fun y => if y = "most" then some v else none)
/-- a made TooGreat -/
structure OwnMade (h h' : Heap) (e C d : Addr) (v : Value) : Prop where
  keep : ∀ b o, h.get? b = some o → h'.get? b = some o
  new : h.objs.size ≤ e
  obj : ∃ oe vs, h'.get? e = some oe ∧ oe.cls = .ref C ∧ oe.dict = some d ∧ oe.data = .fields vs ∧ vs[1]? = some .none
  dbig : h.objs.size ≤ d
  dne : d ≠ e
  ns : h'.Ns1 d (fun y => if y = "most" then some v else none)
theorem kSuper : K67.gS.names.lookup ("super" : Str) = some .globalImplicit := by decide +kernel
theorem kClass : K67.gS.names.lookup ("__class__" : Str) = some .free := by decide +kernel
theorem kSelf : K67.gS.names.lookup ("self" : Str) = some .local := by decide +kernel
theorem kMost : K67.gS.names.lookup ("most" : Str) = some .local := by decide +kernel
section
variable {prog : Program} {w : World} {A : Around} {E : Value → Shared → Prop} {R : Result → Shared → Prop} {s : Shared} {K : Frag} {mg mb : Str → Option Value} {C fI : Addr}
/-- the bound __init__ of ValueError called -/
theorem mw_call {u x t : Addr} {rest : List Value} {Q : Value → Shared → Prop} (hu : s.heap.get? u = some (kxs_mw "ValueError.__init__" x)) {nm q : Str} {N : Addr} {bs bm : List Value} {sn : List Str} {sub : List Value} {ab : Bool} {col : Option Bool} {dd : Option Addr} {k0 k1 k2 k3 k5 : Option Value}
    (hC : s.heap.get? C = some (excClassObj nm q C N bs bm true sn sub ab col dd k0 k1 k2 k3 k5 "ValueError.__new__")) (he : s.heap.get? x = some (excO C t)) (hz : rest.length ≤ sizeLine)
    (h : ∀ h', (∀ b o, b ≠ x → s.heap.get? b = some o → h'.get? b = some o) → h'.get? x = some (excO C s.heap.objs.size) → s.heap.objs.size ≤ h'.objs.size → Q .none { s with heap := h' }) :
    wpAny (model prog w) A (call (.ref u) rest) Q E s := by
  obtain ⟨hh, g, d, tk, os⟩ := s
  refine wpAny_call (codeAny_of_tree ?_)
  show wpAny _ A.in1 (callAny (.ref u) ⟨rest, []⟩) _ _ _
  simp only [callAny]
  refine wpAny_bind (wpAny_load hu ?_)
  simp only [kxs_mw, show (Value.type "method-wrapper" == Value.type "method" || Value.type "method-wrapper" == Value.type "builtin_function_or_method" || Value.type "method-wrapper" == Value.type "method-wrapper") = true by decide, if_true]
  refine KFB.if_so (by decide) ?_
  refine wpAny_bind (check_bound_init PySem.F.excBase_ValueError.toExcCallFacts hC he rfl ?_)
  refine wpAny_bind (wpAny_pure (wpAny_pure ?_))
  refine ⟨plainId_quiet PySem.F.excBase_ValueError.init.plain _, codeAny_builtin PySem.F.excBase_ValueError.initEntry ?_⟩
  refine exc_init_tree (cls := .ref C) (t0 := t) (dv := none) (c2 := .none) (c3 := .none) (b4 := .bool false) he hz fun h' k e' t' => ?_
  exact h h' k e' (Nat.le_of_lt (Heap.lt_size t'))
theorem great_init (T : GreatTxt prog K mg C fI) {x t0 : Addr} {v : Value} (X : K.In s.heap) (hg : s.heap.Ns mainGlobals mg) (hb : s.heap.Ns builtinsNs mb) (hbb : ∀ y : Str, y ≠ "__name__" → mb y = bootBuiltins y)
    (hlim : s.heap.NoLimit) (hx : s.heap.get? x = some (excO C t0)) (hnx : K.lookup x = none) (hroom : A.depth < recursionLimit)
    (hq : ∀ h' tk dx t1, InitEnd s.heap h' x C dx t1 v → R (.ok (.ret .none)) { s with heap := h', toks := tk }) :
    codeAny (model prog w) A (.call (.ref fI) ⟨[.ref x, v], []⟩) R s := by
  obtain ⟨oc, od, doc, pm, an, cda, cc, ct, osl, ho, hcd, ⟨cl, cld, csl, hcell⟩, ccl, cdd, vs, ccs, file, tf, hco, hvs, hfile⟩ := T.fn
  obtain ⟨nm, q, N, bs, bm, sn, sub, ab, col, dd, k0, k1, k2, k3, k5, hC, hbm⟩ := T.cls
  have hcl : clsIn K C = some { name := nm, bases := bs, mro := .ref C :: bm, ns := N, qualname := q, hasDict := true, slotNames := sn, subclasses := sub, abstract := ab, collection := col, hasDel := false } := by unfold clsIn; rw [hC] <;> rfl
  obtain ⟨hp, g, dr, tk, os⟩ := s
  refine ks_codeAny_call_defAt (fd := ksFn "__init__" "TooGreat.__init__" gA gB K67.gS .none .none doc pm an (.ref cda) ct cc) (body := gB) (binds := [("self", .ref x), ("most", v)])
    hroom (X _ _ ho) rfl hlim (codeRec_of X hcd) rfl (BindsTo.of_eq (by first | rfl | with_unfolding_all rfl)) (by show ∀ x ∈ K67.gS.names, x.2 ≠ .cell; decide) (locs rfl) (fun h1 hns k1 => ?_) rfl rfl rfl
  have hxL : hp.objs.size ≠ x := Nat.ne_of_gt (Heap.lt_size hx)
  have X1 : K.In h1 := X.keeps k1
  have hx1 := k1 _ _ hx
  have xC : x ≠ C := fun z => by
    have e := X1 _ _ hC
    rw [← z, hx1] at e
    have e2 := congrArg Obj.data (Option.some.inj e)
    cases e2
  show _root_.PySem.wpAt _ _ (.func gB (ksEnv "TooGreat.__init__" K67.gS hp.objs.size fI (.ref cda) cc)) (execs gB (ksEnv "TooGreat.__init__" K67.gS hp.objs.size fI (.ref cda) cc)) _ _ _
  refine ks_wpAt_execs_cons (ks_wpAt_Expr_any (ks_wpAt_MethodCall ?_))
  refine ks_wpAt_super_base (env := ksEnv "TooGreat.__init__" K67.gS hp.objs.size fI (.ref cda) cc) kSuper kClass (by decide +kernel) rfl (X1 _ _ ho) rfl rfl rfl (X1 _ _ hco) rfl hvs hfile T.top ?_
  refine ks_loadName_global rfl kSuper (loadGlobal_builtin (env := ksEnv "TooGreat.__init__" K67.gS hp.objs.size fI (.ref cda) cc) (v := .type "super") (hg.keeps k1) T.gS (hb.keeps k1) ((hbb _ (by decide +kernel)).trans (by decide +kernel)) ⟨rfl, ?_⟩)
  refine wpAny_loadName_free rfl kClass rfl ⟨_, X1 _ _ hcell, rfl⟩ ?_
  refine wpAny_loadName_local (v := .ref x) rfl kSelf hns rfl ?_
  refine ks_wpAny_isType_cls (X1 _ _ hC) rfl ⟨rfl, ?_⟩
  refine ks_wpAny_call_super (X1 _ _ hC) rfl hx1 rfl (fun c e => by cases e) (looks_mroIn X1 T.meC) (fun h2 e2 k2 => ?_)
  have X2 : K.In h2 := X1.keeps k2
  have hx2 := k2 _ _ hx1
  have hsu := T.suC
  unfold ks_superIn at hsu
  rw [hcl] at hsu
  have I2 : InstAt h2 x (excO C t0) C none := ⟨hx2, rfl, rfl, trivial⟩
  have hI : Looks (model prog w) h2 (isInstance (.ref x) (.type "ValueError")) true := I2.type.andThen (looks_subIn X2 T.veC)
  refine kxs_getMethod kxs_ValueError e2 (looks_opaque X2 T.opq) (l₀ := .ref C :: bm) (fun A Q E s k q => wpAny_bind ((looks_clsIn X2 hcl) A _ E s k (wpAny_pure q))) rfl X2 hsu hI xC (by decide +kernel) ?_
  have hu : (h2.push (kxs_mw "ValueError.__init__" x)).get? h2.objs.size = some (kxs_mw "ValueError.__init__" x) := Heap.get?_push_at rfl rfl
  have k3 : ∀ b o, h2.get? b = some o → (h2.push (kxs_mw "ValueError.__init__" x)).get? b = some o := fun b o e => Heap.get?_push_of_some _ e
  refine kxs_callWith (i := "ValueError.__init__") (x := x) rfl ?_
  refine Calls.evalArgs_plain (Calls.spliced_cons ?_)
  refine wpAny_Constant_str (k := 0) (pos := ⟨20, 25, 20, 35⟩) ?_
  refine Calls.spliced_nil ⟨hu, ?_⟩
  refine mw_call hu (k3 _ _ (X2 _ _ hC)) (k3 _ _ hx2) (one_size _) (fun h4 k4 hx4 z4 => ?_)
  have kk : ∀ b o, b ≠ x → hp.get? b = some o → h4.get? b = some o := fun b o hb e => k4 b o hb (k3 b o (k2 b o (k1 b o e)))
  have X4 : K.In h4 := fun b o e => k4 b o (fun z => by rw [z, hnx] at e; cases e) (k3 _ _ (X2 _ _ e))
  have hn4 : h4.Ns hp.objs.size (fun y => ([("self", Value.ref x), ("most", v)] : List (Str × Value)).reverse.lookup y) := by
    obtain ⟨oL, es, ep, hL, rr⟩ := hns
    exact ⟨oL, es, ep, k4 _ _ hxL (k3 _ _ (k2 _ _ hL)), rr⟩
  show _root_.PySem.wpAt _ _ _ (execs _ _) _ _ _
  refine wpAt_of_wpAny (wpAny_execs_cons (plainObj_wpAny_Assign_Attribute ?_))
  refine wpAny_Name (wpAny_loadName_local (env := ksEnv "TooGreat.__init__" K67.gS hp.objs.size fI (.ref cda) cc) (v := v) rfl kMost hn4 rfl ?_) (by decide +kernel)
  refine wpAny_Name (wpAny_loadName_local (env := ksEnv "TooGreat.__init__" K67.gS hp.objs.size fI (.ref cda) cc) (v := .ref x) rfl kSelf hn4 rfl ?_) (by decide +kernel)
  refine set_plain X4 (ox := excO C _) (od := none) ⟨hx4, rfl, rfl, trivial⟩ T.sa ?_
  refine exc_osa X4 hx4 hcl (show refsVE (.ref C :: bm) = true from hbm) rfl T.noN (fun h₃ tk₃ dx k₃ dn dne hx₃ hn₃ => ?_)
  show wpAny _ _ (execs _ _) _ _ _
  have z0 : hp.objs.size ≤ h4.objs.size := by
    obtain ⟨oL, es, ep, hL, rr⟩ := hn4
    exact Nat.le_of_lt (Heap.lt_size hL)
  exact wpAny_execs_nil (hq h₃ tk₃ dx _ ⟨fun b o hb e => k₃ b o hb (kk b o hb e), hx₃, Nat.le_trans z0 dn, dne, hn₃⟩)
theorem great_made (T : GreatTxt prog K mg C fI) {v : Value} (X : K.In s.heap) (hg : s.heap.Ns mainGlobals mg) (hb : s.heap.Ns builtinsNs mb) (hbb : ∀ y : Str, y ≠ "__name__" → mb y = bootBuiltins y) (hlim : s.heap.NoLimit) (hroom : A.depth + 1 < recursionLimit)
    (hq : ∀ h' tk e d, OwnMade s.heap h' e C d v → R (.ok (.ret (.ref e))) { s with heap := h', toks := tk }) :
    codeAny (model prog w) A (.call (.ref C) ⟨[v], []⟩) R s := by
  obtain ⟨nm, q, N, bs, bm, sn, sub, ab, col, dd, k0, k1, k2, k3, k5, hC, hbm⟩ := T.cls
  obtain ⟨hp, g, dr, tk, os⟩ := s
  have k : ∀ b o, hp.get? b = some o → ((hp.push (kdv_tup [v])).push (excO C hp.objs.size)).get? b = some o := fun b o e => Heap.get?_push_of_some _ (Heap.get?_push_of_some _ e)
  have hget : ((hp.push (kdv_tup [v])).push (excO C hp.objs.size)).get? (hp.objs.size + 1) = some (excO C hp.objs.size) := by heap_get
  have hnx : K.lookup (hp.objs.size + 1) = none := by
    cases e : K.lookup (hp.objs.size + 1) with
    | none => rfl
    | some o =>
      have z : hp.get? (hp.objs.size + 1) = some o := X _ _ e
      exact absurd (Nat.lt_of_succ_lt (Heap.lt_size z)) (Nat.lt_irrefl _)
  refine call_own PySem.F.excBase_ValueError (fun X => refsVE_contains X bm hbm) (X _ _ hC) (looks_findIn X T.iC) (fun self => bind_fn X self T.tC) (one_size v) ?_
  refine great_init (s := ⟨(hp.push (kdv_tup [v])).push (excO C hp.objs.size), g, dr, tk, os⟩) T (X.keeps k) (hg.keeps k) (hb.keeps k) hbb (hlim.keeps k) hget hnx ?_ fun h' tk' dx t1 ⟨k', hx, dn, dne, hns⟩ => ?_
  · show A.depth + 1 < recursionLimit
    exact hroom
  · have old : ∀ b o, hp.get? b = some o → h'.get? b = some o := fun b o e => k' b o (Nat.ne_of_lt (Nat.lt_succ_of_lt (Heap.lt_size e))) (k b o e)
    have z : hp.objs.size + 1 + 1 ≤ dx := by
      first
        | (simpa only [Heap.size_push] using dn)
        | exact dn
        | (have q := dn; rw [Heap.size_push, Heap.size_push] at q; exact q)
    exact ⟨rfl, hq h' tk' (hp.objs.size + 1) dx ⟨old, Nat.le_succ _, ⟨_, _, hx, rfl, rfl, rfl, rfl⟩, Nat.le_trans (Nat.le_trans (Nat.le_succ _) (Nat.le_succ _)) z, dne, hns⟩⟩
end
end K67

namespace K67
open PySem PySem.Spec PyProof.Rows L2
theorem relO_great {v : V} {v' : Value} (r : RelV v v') (f : Str) : RelO (List.lookup f [(("most" : Str), v)]) (if f = "most" then some v' else none) := by
  by_cases hw : f = "most"
  · subst hw
    rw [if_pos rfl]
    have q : List.lookup ("most" : Str) [(("most" : Str), v)] = some v := by simp [List.lookup]
    rw [q]
    exact r
  · rw [if_neg hw]
    have qw : (f == ("most" : Str)) = false := by simpa using hw
    have q2 : List.lookup f [(("most" : Str), v)] = none := by simp [List.lookup, qw]
    rw [q2]
    trivial
section
variable {X : Cx} {C fI : Addr}
/-- Low(e) -/
def tMkGreat (C : Addr) (ta : TA) : L2.St → Hp → XK → Prop := fun σ H Q => ta σ H fun vs H1 => ∃ v, vs = [v] ∧ ∀ d, H1 d = none → Q (.ref C) (some d) (upd H1 d (.xd [(("most" : Str), v)]))
theorem pmk_great {a : Expr} {ta : TA} {p pos : Pos} {k : Nat} (T : GreatTxt X.prog X.K X.mg C fI) (hr : Room k X.A) (ha : PA X [a] ta) (hg : Gl X "TooGreat" := by rfl)
    (he : starEach (a :: []) X.env = (false, eval a X.env) :: starEach [] X.env := by rfl) (hpl : (backTo pos (starEach [] X.env)).any (·.1) = false := by rfl) :
    PMk X (.Call (.Name "TooGreat" p) [a] [] pos) (tMkGreat C ta) := by
  intro pins s σ H Q I h
  refine wpAny_Call_Name_kw (ld_glob I hg T.gC ?_)
  refine PySem.W.callWith_K (h₀ := X.base) I.ok.mod.kin T.kC (thn (ha.run pos pins s σ H _ I h) fun us s1 hh => ?_) he hpl
  obtain ⟨vs, H1, I1, r1, v, ev, q1⟩ := hh
  subst ev
  refine ⟨I1.kIn, ?_⟩
  cases r1 with
  | cons rv rn =>
    rename_i v' us'
    cases rn
    show wpAny _ _ (call (.ref C) [v']) _ _ _
    have hlim := I1.nolimit
    obtain ⟨hp, g, dr, tk, os⟩ := s1
    obtain ⟨mb, nb, bb⟩ := I1.mod.blt
    refine wpAny_call (great_made (mg := X.mg) (mb := mb) T I1.kIn (I1.mod.glob.keeps I1.bk) (nb.keeps I1.bk) bb hlim (by have := hr.dp; omega) fun h' tk' e d M => ?_)
    show MkP X pins σ Q (.ref e) ⟨h', g, dr, tk', os⟩
    obtain ⟨oe, fv, hoe, hc, hd, hdat, h1⟩ := M.obj
    have hns := M.ns
    obtain ⟨G', g1, g2⟩ := restrict h' fun b => decide (b ≠ e)
    have gk : ∀ b, b ≠ e → G'.get? b = h'.get? b := fun b hb => g1 b (decide_eq_true hb)
    have ge : G'.get? e = none := g2 e (by simp)
    have old : ∀ b o, hp.get? b = some o → G'.get? b = some o := fun b o q => (gk b (Nat.ne_of_lt (Nat.lt_of_lt_of_le (Heap.lt_size q) M.new))).trans (M.keep b o q)
    have ob : ObjOk X.prog X.w (upd H1 d (.xd [(("most" : Str), v)])) G' d (.xd [(("most" : Str), v)]) :=
      ⟨_, hns.at (fun o q => (gk d M.dne).trans q), fun f => relO_great rv f⟩
    have J : Inv X pins σ (upd H1 d (.xd [(("most" : Str), v)])) ⟨G', g, dr, tk', os⟩ := I1.laid (t' := tk') old M.dbig ob
    refine ⟨e, oe, fv, ⟨G', g, dr, tk', os⟩, _, .ref C, some d, rfl, J, fun b o q => ?_, ge, hoe, ⟨hc, hd⟩, hdat, h1, ?_, rfl, I1.bare, raises_own T.exC T.tyC, q1 d (I1.hok.fresh M.dbig)⟩
    · by_cases hb : b = e
      · have q' : G'.get? b = some o := q
        rw [hb, ge] at q'; cases q'
      · exact (gk b hb).symm.trans q
    · rw [upd_ne (Ne.symm M.dne)]
      exact I1.hok.fresh M.new
/-- raise Low(e) -/
def tRaiseGreat (C : Addr) (W : WX) (ta : TA) : TS := fun _ σ H => tMkGreat C ta σ H fun cls d H' => W cls d σ H'
theorem ps_raiseGreat {a : Expr} {ta : TA} {W : WX} {p pos pos2 : Pos} {k : Nat} (hc : X.calm = true) (T : GreatTxt X.prog X.K X.mg C fI) (hr : Room k X.A) (tk : Takes X W) (ha : PA X [a] ta) (hg : Gl X "TooGreat" := by rfl)
    (he : starEach (a :: []) X.env = (false, eval a X.env) :: starEach [] X.env := by rfl) (hpl : (backTo pos (starEach [] X.env)).any (·.1) = false := by rfl) :
    PS X (.Raise (some (.Call (.Name "TooGreat" p) [a] [] pos)) none pos2) (tRaiseGreat C W ta) := ps_raise hc tk (pmk_great T hr ha hg he hpl)

end
end K67
/-! The text by places; a def by its promise; what the top has written. -/
namespace K67
open PySem PySem.Spec PyProof.Rows L2
def top (i : Nat) : Stmt := PySem.Challenge.pw_openverbs_k67_whole_texts_of_arrays_and.main.body.getD i (.Pass ⟨0, 0, 0, 0⟩)
/-! ### a def of the top, a method -/
structure Df (K : PySem.W.Frag) (mg : Str → Option Value) (x : Str) (st : Stmt) (ps : List Str) : Prop where
  ex : ∃ f fd, Fun K x x st f fd ∧ mg x = some (.ref f) ∧ Binds K fd ps []
structure Dm (K : PySem.W.Frag) (C : Addr) (m qual : Str) (st : Stmt) (ps : List Str) : Prop where
  ex : ∃ f fd, Fun K m qual st f fd ∧ Meth K C m f ∧ Binds K fd ps []
/-- a def's promise, by its name -/
structure Pm (P : Program) (w : World) (K : PySem.W.Frag) (mg : Str → Option Value) (base : Heap) (CX : CXT) (k : Nat) (x : Str) (sp : Sp) : Prop where
  ex : ∃ f fd ps, FnOk P w K mg base CX k f fd ps sp ∧ mg x = some (.ref f) ∧ PySem.W.keepIn K (.ref f) = true ∧ Binds K fd ps []
structure PmG (P : Program) (w : World) (K : PySem.W.Frag) (mg : Str → Option Value) (base : Heap) (k : Nat) (x : Str) (sp : Sp) : Prop where
  ex : ∃ f fd ps, FnG P w K mg base k f fd ps sp ∧ mg x = some (.ref f) ∧ PySem.W.keepIn K (.ref f) = true ∧ Binds K fd ps []
structure Pe (P : Program) (w : World) (K : PySem.W.Frag) (mg : Str → Option Value) (base : Heap) (CX : CXT) (k : Nat) (C : Addr) (m : Str) (sp : Sp) : Prop where
  ex : ∃ f fd ps, FnOk P w K mg base CX k f fd ps sp ∧ Meth K C m f ∧ Binds K fd ps []
section
variable {P : Program} {w : World} {K : PySem.W.Frag} {mg : Str → Option Value} {base : Heap} {CX : CXT} {k : Nat} {x m qual : Str} {C : Addr} {st : Stmt} {ps : List Str} {sp : Sp}
theorem Df.pm (D : Df K mg x st ps) (h : ∀ f fd, Fun K x x st f fd → FnOk P w K mg base CX k f fd ps sp) : Pm P w K mg base CX k x sp := by
  obtain ⟨f, fd, F, m, b⟩ := D.ex
  exact ⟨f, fd, ps, h f fd F, m, F.kp, b⟩
theorem Df.pmG (D : Df K mg x st ps) (h : ∀ f fd, Fun K x x st f fd → FnG P w K mg base k f fd ps sp) : PmG P w K mg base k x sp := by
  obtain ⟨f, fd, F, m, b⟩ := D.ex
  exact ⟨f, fd, ps, h f fd F, m, F.kp, b⟩
theorem Dm.pe (D : Dm K C m qual st ps) (h : ∀ f fd, Fun K m qual st f fd → FnOk P w K mg base CX k f fd ps sp) : Pe P w K mg base CX k C m sp := by
  obtain ⟨f, fd, F, M, b⟩ := D.ex
  exact ⟨f, fd, ps, h f fd F, M, b⟩
theorem df_mk {f : Addr} {oc : Value} {od an : Option Addr} {osl : Array (Option Value)} {kV doc pm cdv ct : Value} (m : mg x = some (.ref f))
    (l : K.lookup f = some ⟨oc, od, .func (PySem.W.fnOf x x (defArgs st) (defBody st) (defScope st) .none kV doc pm an cdv ct), osl⟩)
    (c : PySem.W.codeIn K cdv x = true) (k : PySem.W.keepIn K (.ref f) = true)
    (h : ∀ (kV doc pm : Value) (an : Option Addr) (cdv ct : Value) (us : List Value), us.length = ps.length → bindArgs (PySem.W.fnOf x x (defArgs st) (defBody st) (defScope st) .none kV doc pm an cdv ct) ⟨us, []⟩ = pure (ps.zip us)) : Df K mg x st ps :=
  ⟨f, _, fun_mk l c k, m, (fun_mk l c k).binds h⟩
theorem dm_mk {f : Addr} {oc : Value} {od an : Option Addr} {osl : Array (Option Value)} {kV doc pm cdv ct : Value} (a : PySem.W.findIn K (.ref C) m = some (some (.ref f))) (i : PySem.W.isFn K (.ref f) = true)
    (l : K.lookup f = some ⟨oc, od, .func (PySem.W.fnOf m qual (defArgs st) (defBody st) (defScope st) .none kV doc pm an cdv ct), osl⟩)
    (c : PySem.W.codeIn K cdv qual = true) (k : PySem.W.keepIn K (.ref f) = true)
    (h : ∀ (kV doc pm : Value) (an : Option Addr) (cdv ct : Value) (us : List Value), us.length = ps.length → bindArgs (PySem.W.fnOf m qual (defArgs st) (defBody st) (defScope st) .none kV doc pm an cdv ct) ⟨us, []⟩ = pure (ps.zip us)) : Dm K C m qual st ps :=
  ⟨f, _, fun_mk l c k, ⟨a, i, k⟩, (fun_mk l c k).binds h⟩
end
section
variable {X : Cx} {CX : CXT} {k : Nat} {C : Addr} {sp : Sp} {E : XK} {x m : Str} {p pos apos : Pos} {e o : Expr} {es : List Expr} {ta : TE} {t : TA}
theorem pe_f (G : Pm X.prog X.w X.K X.mg X.base CX k x sp) (hr : Room k X.A) (hx : Passes CX X E) (ha : PA X (e :: es) t) (hg : Gl X x := by rfl) (hdb : (x == ("__debug__" : Str)) = false := by decide)
    (he : starEach (e :: es) X.env = (false, eval e X.env) :: starEach es X.env := by rfl) (hpl : (backTo pos (starEach es X.env)).any (·.1) = false := by rfl) : PE X (.Call (.Name x p) (e :: es) [] pos) (tCall sp [] E t) := by
  obtain ⟨f, fd, ps, F, m, kp, b⟩ := G.ex
  exact pe_call F hr hg m kp b .nil hx ha hdb he hpl
theorem pe_fS {E : L2.St → XK} (G : Pm X.prog X.w X.K X.mg X.base CX k x sp) (hr : Room k X.A) (hx : ∀ σ, PassesAt CX X σ (E σ)) (ha : PA X (e :: es) t) (hg : Gl X x := by rfl) (hdb : (x == ("__debug__" : Str)) = false := by decide)
    (he : starEach (e :: es) X.env = (false, eval e X.env) :: starEach es X.env := by rfl) (hpl : (backTo pos (starEach es X.env)).any (·.1) = false := by rfl) : PE X (.Call (.Name x p) (e :: es) [] pos) (tCallS sp E t) := by
  obtain ⟨f, fd, ps, F, m, kp, b⟩ := G.ex
  exact pe_callS F hr hg m kp b hx ha hdb he hpl
theorem pe_fG (G : PmG X.prog X.w X.K X.mg X.base k x sp) (hgu : X.A.guards = some []) (hr : Room k X.A) (ha : PA X (e :: es) t) (hg : Gl X x := by rfl) (hdb : (x == ("__debug__" : Str)) = false := by decide)
    (he : starEach (e :: es) X.env = (false, eval e X.env) :: starEach es X.env := by rfl) (hpl : (backTo pos (starEach es X.env)).any (·.1) = false := by rfl) : PE X (.Call (.Name x p) (e :: es) [] pos) (tCall sp [] E0 t) := by
  obtain ⟨f, fd, ps, F, m, kp, b⟩ := G.ex
  exact pe_callG F hgu hr hg m kp b ha hdb he hpl
theorem pe_fG0 (G : PmG X.prog X.w X.K X.mg X.base k x sp) (hgu : X.A.guards = some []) (hr : Room k X.A) (hg : Gl X x := by rfl) (hdb : (x == ("__debug__" : Str)) = false := by decide) :
    PE X (.Call (.Name x p) [] [] pos) (tCall sp [] E0 tNil) := by
  obtain ⟨f, fd, ps, F, m, kp, b⟩ := G.ex
  exact pe_callG0 F hgu hr hg m kp b hdb
theorem pe_mt {pl : Sem Bool} (he : PE X o ta) (c : Cls X.K C) (G : Pe X.prog X.w X.K X.mg X.base CX k C m sp) (hr : Room k X.A) (hx : Passes CX X E) (ha : PA X (e :: es) t)
    (hst : starEach (e :: es) X.env = (false, eval e X.env) :: starEach es X.env := by rfl) (hpl : (backTo pos (starEach es X.env)).any (·.1) = false := by rfl)
    (ht : eval (.Call (.Attribute o m apos) (e :: es) [] pos) X.env = (do
      let ov ← eval o X.env
      standAt apos.atName
      let (f, first) ← holding [ov] (getMethod ov m pl)
      callWith pos f first (backTo pos (starEach (e :: es) X.env)) (backToKw pos (keywordEach [] X.env))) := by rfl) :
    PE X (.Call (.Attribute o m apos) (e :: es) [] pos) (tMeth C m sp [] E ta t) := by
  obtain ⟨f, fd, ps, F, M, b⟩ := G.ex
  exact pe_meth he c M F hr b .nil hx ha hst hpl ht
theorem pe_mt0 {pl : Sem Bool} (he : PE X o ta) (c : Cls X.K C) (G : Pe X.prog X.w X.K X.mg X.base CX k C m sp) (hr : Room k X.A) (hx : Passes CX X E)
    (ht : eval (.Call (.Attribute o m apos) [] [] pos) X.env = (do
      let ov ← eval o X.env
      standAt apos.atName
      let (f, first) ← holding [ov] (getMethod ov m pl)
      callWith pos f first (backTo pos (starEach [] X.env)) (backToKw pos (keywordEach [] X.env))) := by rfl) :
    PE X (.Call (.Attribute o m apos) [] [] pos) (tMeth C m sp [] E ta tNil) := by
  obtain ⟨f, fd, ps, F, M, b⟩ := G.ex
  exact pe_meth0 he c M F hr b .nil hx ht
end
/-! ### heaps -/
theorem seqT {K : PySem.W.Frag} {H H' : Hp} {a : Addr} {xs : List V} (e : Same H H') (h : SqT K H a xs) : SqT K H' a xs := by
  rcases h with (h | ⟨o, h⟩) | h
  · exact .inl (.inl (e _ _ h))
  · exact .inl (.inr ⟨o, e _ _ h⟩)
  · exact .inr h
theorem same_upd {H : Hp} {p : Addr} {o : HO} (hp : H p = none) : Same H (upd H p o) := fun b u e => by
  rw [upd_ne (ne_of_none e hp)]; exact e
theorem same_updR {H H1 : Hp} {p : Addr} {o : HO} (s : Same H H1) (hp : H p = none) : Same H (upd H1 p o) := fun b u e => by
  rw [upd_ne (ne_of_none e hp)]; exact s b u e
theorem ty_tup {K : PySem.W.Frag} {H : Hp} {a : Addr} {xs : List V} (h : SqT K H a xs) : TyX K H (.ref a) (.type "tuple") := by
  rcases h with (h | ⟨o, h⟩) | ⟨o, its, n, h, c, _⟩
  · exact .base (.tup h)
  · exact .fTuple h
  · exact .kTuple h c
theorem map_get {α : Type} {f : α → V} {l : List α} {i : Nat} {y : V} (h : (l.map f)[i]? = some y) : ∃ z, l[i]? = some z ∧ y = f z := by
  rw [List.getElem?_map] at h
  cases e : l[i]? with
  | none => rw [e] at h; cases h
  | some z => rw [e] at h; exact ⟨z, rfl, (Option.some.inj h).symm⟩
/-- a written tuple of texts -/
def KTexts (K : PySem.W.Frag) (a : Addr) (ws : List Str) : Prop := ∀ H, SqT K H a (ws.map V.str)
/-- what the walk asks of the top. C TooGreat, fI its __init__, W WordRow -/
structure Txt (P : Program) (w : World) (K : PySem.W.Frag) (mg : Str → Option Value) (C fI W : Addr) : Prop where
  great : GreatTxt P K mg C fI
  nIsi : mg "isinstance" = none
  nInt : mg "int" = none
  nBool : mg "bool" = none
  nStr : mg "str" = none
  nTup : mg "tuple" = none
  nLen : mg "len" = none
  nEnum : mg "enumerate" = none
  nAbs : mg "abs" = none
  nAll : mg "all" = none
  nAny : mg "any" = none
  nRange : mg "range" = none
  nList : mg "list" = none
  nSet : mg "set" = none
  nRepr : mg "repr" = none
  nMin : mg "min" = none
  cSides : ∃ t, mg "MOST_SIDES" = some (.int 4 t)
  cSide : ∃ t, mg "MOST_SIDE" = some (.int 400 t)
  cItems : ∃ t, mg "MOST_ITEMS" = some (.int 400 t)
  cFigs : ∃ t, mg "MOST_FIGURES" = some (.int 31 t)
  cWords : ∃ t, mg "MOST_WORDS" = some (.int 60 t)
  cBlank : ∃ t, mg "BLANK" = some (.str sp t)
  cEnd : ∃ t, mg "ROW_END" = some (.str nl t)
  cDigits : ∃ t, mg "FIGURES" = some (.str ("0123456789" : String) t)
  cHab : ∃ a, mg "CUSTOM_WORDS_habits" = some (.ref a) ∧ KTexts K a chain
  cTex : ∃ a, mg "CUSTOM_WORDS_texts" = some (.ref a) ∧ KTexts K a chain
  cUni : ∃ a, mg "UNIT_WORDS" = some (.ref a) ∧ KTexts K a [uW false, uW true]
  cLis : ∃ a, mg "LISTED" = some (.ref a) ∧ KDct K w a "lay" (.int 4)
  row : Cls K W
  gRow : mg "WordRow" = some (.ref W)
  kRow : PySem.W.keepIn K (.ref W) = true
  mRow : PySem.W.makesIn K W = true
  aLine : NoAttr K W "line"
  aWords : NoAttr K W "words"
  aAt : NoAttr K W "at"
  aTold : NoAttr K W "told"
  aDeep : NoAttr K W "deep"
  mInit : Dm K W "__init__" "WordRow.__init__" (inClass (top 37) 0) ["self", "line", "text"]
  mAhead : Dm K W "word_ahead" "WordRow.word_ahead" (inClass (top 37) 1) ["self"]
  mRead : Dm K W "word_read" "WordRow.word_read" (inClass (top 37) 3) ["self"]
  mTold : Dm K W "take_told" "WordRow.take_told" (inClass (top 37) 4) ["self", "some"]
  mMark : Dm K W "take_mark" "WordRow.take_mark" (inClass (top 37) 6) ["self", "mark"]
  mInte : Dm K W "take_integer" "WordRow.take_integer" (inClass (top 37) 9) ["self"]
  mNeed : Dm K W "need_row_end" "WordRow.need_row_end" (inClass (top 37) 12) ["self"]
  d8 : Df K mg "is_whole" (top 8) ["value"]
  d9 : Df K mg "is_within" (top 9) ["value", "least", "most"]
  d10 : Df K mg "is_tuple_of" (top 10) ["value", "many"]
  d11 : Df K mg "product" (top 11) ["numbers"]
  d12 : Df K mg "first_bad" (top 12) ["things", "is_good"]
  d17 : Df K mg "is_one_side" (top 17) ["value"]
  d18 : Df K mg "lasting_product" (top 18) ["sides"]
  d19 : Df K mg "is_shape" (top 19) ["value"]
  d20 : Df K mg "need_array" (top 20) ["array"]
  d23 : Df K mg "is_habit" (top 23) ["value"]
  d24 : Df K mg "need_customs" (top 24) ["customs"]
  d32 : Df K mg "figures_of" (top 32) ["number"]
  d33 : Df K mg "integer_by_word" (top 33) ["word"]
  d34 : Df K mg "text_rows" (top 34) ["text"]
  d35 : Df K mg "lone_word_row" (top 35) ["text"]
  d36 : Df K mg "need_text_end" (top 36) ["row", "beyond"]
  d41 : Df K mg "integer_words" (top 41) ["numbers"]
  d42 : Df K mg "array_words" (top 42) ["array"]
  d43 : Df K mg "array_text" (top 43) ["array"]
  d44 : Df K mg "customs_text" (top 44) ["customs"]
  d45 : Df K mg "array_taken" (top 45) ["row"]
  d46 : Df K mg "customs_taken" (top 46) ["row"]
  d47 : Df K mg "read_array" (top 47) ["text"]
  d48 : Df K mg "read_customs" (top 48) ["text"]
  d50 : Df K mg "_law_mixed" (top 50) ["_law_cell", "_law_n"]
  d51 : Df K mg "_law_folded" (top 51) ["_law_script"]
  d52 : Df K mg "_law_draw" (top 52) ["_law_m", "_law_limit"]
  d53 : Df K mg "_law_begun" (top 53) ["_law_script"]
  d54 : Df K mg "_law_like" (top 54) ["_law_got", "_law_due"]
  d55 : Df K mg "_law_of" (top 55) ["_law_m", "_law_some"]
  d56 : Df K mg "_law_many" (top 56) ["_law_shape"]
  d57 : Df K mg "_law_integer" (top 57) ["_law_m"]
  d58 : Df K mg "_law_wide_array" (top 58) ["_law_m"]
  d59 : Df K mg "_law_array_due" (top 59) ["_law_array"]
  d60 : Df K mg "_law_customs_due" (top 60) ["_law_customs"]
  d61 : Df K mg "_law_heard" (top 61) ["_law_call"]
  d62 : Df K mg "_law_array_right" (top 62) ["_law_m", "_law_array"]
  d63 : Df K mg "_law_customs_right" (top 63) ["_law_customs"]
  d64 : Df K mg "_law_hand_right" (top 64) []
end K67
/-! The defs of kit.py and arrays.py. -/
namespace K67
open PySem PySem.Spec PyProof.Rows L2
def spWhole : Sp := fun vs H Q _ => ∃ i, vs = [.int i] ∧ Q (.bl true) H
def spWithin : Sp := fun vs H Q _ => ∃ i lo hi, vs = [.int i, .int lo, .int hi] ∧ Q (.bl (decide (lo ≤ i) && decide (i ≤ hi))) H
def spTupOf (K : PySem.W.Frag) : Sp := fun vs H Q _ => ∃ (a : Addr) (xs : List V) (n : Int), vs = [.ref a, .int n] ∧ SqT K H a xs ∧ Q (.bl (decide ((xs.length : Int) = n))) H
def prodI (l : List Int) : Int := l.foldl (· * ·) 1
/-- products of the first ones are small -/
def Low (l : List Int) : Prop := ∀ i, i ≤ l.length → -(2 ^ 64) < prodI (l.take i) ∧ prodI (l.take i) < 2 ^ 64
def spProdT (K : PySem.W.Frag) : Sp := fun vs H Q _ => ∃ (a : Addr) (ns : List Int), vs = [.ref a] ∧ SqT K H a (ns.map V.int) ∧ Low ns ∧ Q (.int (prodI ns)) H
def spProdL (K : PySem.W.Frag) : Sp := fun vs H Q _ => ∃ (a : Addr) (ns : List Int), vs = [.ref a] ∧ SqL K H a (ns.map V.int) ∧ Low ns ∧ Q (.int (prodI ns)) H
section
variable {P : Program} {w : World} {K : PySem.W.Frag} {mg : Str → Option Value} {base : Heap} {C fI W : Addr}
theorem prod_take {l : List Int} {i : Nat} {z : Int} (h : l[i]? = some z) : prodI (l.take (i + 1)) = prodI (l.take i) * z := by
  unfold prodI
  rw [List.take_add_one, h, List.foldl_append]
  rfl
theorem sc8 : FnScope ["value"] ["value"] (defScope (top 8)) := ⟨rfl, rfl, rfl, by decide +kernel, rfl, by decide +kernel, by decide +kernel⟩
theorem ok8 (T : Txt P w K mg C fI W) {f : Addr} {fd : FuncData} (F : Fun K "is_whole" "is_whole" (top 8) f fd) : FnOk P w K mg base CX0 1 f fd ["value"] spWhole := by
  refine F.ok sc8 (fun vs H Q E h => ?_) (fun cdv A outer s H vs Q E hr h => ?_)
  · obtain ⟨i, rfl, _⟩ := h
    rfl
  · obtain ⟨i, rfl, k⟩ := h
    refine ⟨_, pss_one (ps_ret (pe_and (pe_callB call_isi (by rfl) T.nIsi (by decide +kernel) (pa_cons (pv 0) (pa_cons (pe_bltn (v := .ty "int") (by rfl) T.nInt (by decide +kernel) rfl) pa_nil)))
      (pe_one (pe_not (pe_callB call_isi (by rfl) T.nIsi (by decide +kernel) (pa_cons (pv 0) (pa_cons (pe_bltn (v := .ty "bool") (by rfl) T.nBool (by decide +kernel) rfl) pa_nil))))))), ?_⟩
    refine ⟨_, rfl, _, _, _, _, true, rfl, .ty _, .base (.int i), kit_ty (by decide +kernel), _, rfl, ?_⟩
    refine iteT ?_
    exact ⟨_, rfl, _, _, _, _, false, rfl, .ty _, .base (.int i), kit_ty (by decide +kernel), _, rfl, k⟩
theorem pm8 (T : Txt P w K mg C fI W) : Pm P w K mg base CX0 1 "is_whole" spWhole := T.d8.pm fun f fd F => ok8 T F
theorem sc9 : FnScope ["value", "least", "most"] ["value", "least", "most"] (defScope (top 9)) := ⟨rfl, rfl, rfl, by decide +kernel, rfl, by decide +kernel, by decide +kernel⟩
theorem pm9 (T : Txt P w K mg C fI W) : Pm P w K mg base CX0 2 "is_within" spWithin := T.d9.pm fun f fd F => by
  refine F.ok sc9 (fun vs H Q E h => ?_) (fun cdv A outer s H vs Q E hr h => ?_)
  · obtain ⟨i, lo, hi, rfl, _⟩ := h
    rfl
  · obtain ⟨i, lo, hi, rfl, k⟩ := h
    refine ⟨_, pss_one (ps_ret (pe_and (pe_f (pm8 T) hr pass0 (pa_cons (pv 0) pa_nil)) (pe_one (pe_chain op_le op_le (pv 1) (pv 0) (pv 2))))), ?_⟩
    refine ⟨_, rfl, i, rfl, _, rfl, iteT ?_⟩
    refine ⟨_, rfl, _, rfl, _, _, rfl, rfl, _, rfl, ?_⟩
    by_cases h1 : lo ≤ i
    · rw [decide_eq_true h1] at k ⊢
      refine iteT ⟨_, rfl, _, _, rfl, rfl, ?_⟩
      exact k
    · rw [decide_eq_false h1] at k ⊢
      exact iteF k
theorem sc10 : FnScope ["value", "many"] ["value", "many"] (defScope (top 10)) := ⟨rfl, rfl, rfl, by decide +kernel, rfl, by decide +kernel, by decide +kernel⟩
theorem pm10 (T : Txt P w K mg C fI W) : Pm P w K mg base CX0 1 "is_tuple_of" (spTupOf K) := T.d10.pm fun f fd F => by
  refine F.ok sc10 (fun vs H Q E h => ?_) (fun cdv A outer s H vs Q E hr h => ?_)
  · obtain ⟨a, xs, n, rfl, _⟩ := h
    rfl
  · obtain ⟨a, xs, n, rfl, hs, k⟩ := h
    refine ⟨_, pss_one (ps_ret (pe_and (pe_callB call_isi (by rfl) T.nIsi (by decide +kernel) (pa_cons (pv 0) (pa_cons (pe_bltn (v := .ty "tuple") (by rfl) T.nTup (by decide +kernel) rfl) pa_nil)))
      (pe_one (pe_cmp (pc_eqI (pe_callB call_len (by rfl) T.nLen PySem.boot_len (pa_cons (pv 0) pa_nil)) (pv 1)) rfl)))), ?_⟩
    refine ⟨_, rfl, _, _, _, _, true, rfl, .ty _, ty_tup hs, kit_ty (by decide +kernel), _, rfl, iteT ?_⟩
    exact ⟨_, rfl, _, _, rfl, .inr ⟨_, hs, rfl⟩, _, rfl, _, _, rfl, rfl, k⟩
theorem sc11 : FnScope ["numbers", "found", "number"] ["numbers"] (defScope (top 11)) := ⟨rfl, rfl, rfl, by decide +kernel, rfl, by decide +kernel, by decide +kernel⟩
theorem pm11T (T : Txt P w K mg C fI W) : Pm P w K mg base CX0 1 "product" (spProdT K) := T.d11.pm fun f fd F => by
  refine F.ok sc11 (fun vs H Q E h => ?_) (fun cdv A outer s H vs Q E hr h => ?_)
  · obtain ⟨a, ns, rfl, _⟩ := h
    rfl
  · obtain ⟨a, ns, rfl, hs, hl, k⟩ := h
    refine ⟨_, pss_cons (ps_set (i := 1) sc11.nd rfl (Or.inl rfl) pe_int) (pss_cons (ps_for PassesOwn.never rfl (pi_tup (pv 0)) (pg_name (i := 2) sc11.nd rfl (Or.inl rfl))
      (pss_one (ps_set (i := 1) sc11.nd rfl (Or.inl rfl) (pe_op op_mul (pv 1) (pv 2))))) (pss_one (ps_ret (pv 1)))), ?_⟩
    refine ⟨_, rfl, a, rfl, ⟨_, hs⟩, for_tup (K := K) (a := a) (xs := ns.map V.int) (fun i σ H2 => (∃ v, σ = [some (.ref a), some (.int (prodI (ns.take i))), v]) ∧ H2 = H) ⟨⟨none, rfl⟩, rfl⟩ (fun i σ H2 _ ⟨_, e⟩ => by rw [e]; exact hs) ?_ ?_⟩
    · rintro i y σ H2 hi ⟨⟨v, rfl⟩, rfl⟩
      obtain ⟨z, hz, rfl⟩ := map_get hi
      have hlt : i ≤ ns.length := Nat.le_of_lt (List.getElem?_eq_some_iff.mp hz).1
      refine ⟨_, rfl, _, rfl, _, _, rfl, rfl, .inl (hl i hlt), ?_⟩
      exact ⟨⟨some (.int z), by rw [prod_take hz]; rfl⟩, rfl⟩
    · rintro σ H2 ⟨⟨v, rfl⟩, rfl⟩
      rw [List.take_of_length_le (by rw [List.length_map]; exact Nat.le_refl _)]
      exact ⟨_, rfl, k⟩
theorem pm11L (T : Txt P w K mg C fI W) : Pm P w K mg base CX0 1 "product" (spProdL K) := T.d11.pm fun f fd F => by
  refine F.ok sc11 (fun vs H Q E h => ?_) (fun cdv A outer s H vs Q E hr h => ?_)
  · obtain ⟨a, ns, rfl, _⟩ := h
    rfl
  · obtain ⟨a, ns, rfl, hs, hl, k⟩ := h
    refine ⟨_, pss_cons (ps_set (i := 1) sc11.nd rfl (Or.inl rfl) pe_int) (pss_cons (ps_for PassesOwn.never rfl (pi_list (pv 0)) (pg_name (i := 2) sc11.nd rfl (Or.inl rfl))
      (pss_one (ps_set (i := 1) sc11.nd rfl (Or.inl rfl) (pe_op op_mul (pv 1) (pv 2))))) (pss_one (ps_ret (pv 1)))), ?_⟩
    refine ⟨_, rfl, a, rfl, ⟨_, hs⟩, for_list (K := K) (a := a) (xs := ns.map V.int) (fun i σ H2 => (∃ v, σ = [some (.ref a), some (.int (prodI (ns.take i))), v]) ∧ H2 = H) ⟨⟨none, rfl⟩, rfl⟩ (fun i σ H2 _ ⟨_, e⟩ => by rw [e]; exact hs) ?_ ?_⟩
    · rintro i y σ H2 hi ⟨⟨v, rfl⟩, rfl⟩
      obtain ⟨z, hz, rfl⟩ := map_get hi
      have hlt : i ≤ ns.length := Nat.le_of_lt (List.getElem?_eq_some_iff.mp hz).1
      refine ⟨_, rfl, _, rfl, _, _, rfl, rfl, .inl (hl i hlt), ?_⟩
      exact ⟨⟨some (.int z), by rw [prod_take hz]; rfl⟩, rfl⟩
    · rintro σ H2 ⟨⟨v, rfl⟩, rfl⟩
      rw [List.take_of_length_le (by rw [List.length_map]; exact Nat.le_refl _)]
      exact ⟨_, rfl, k⟩
/-- first_bad where every thing is good -/
def spFirst (K : PySem.W.Frag) (g : Addr) (good : V → Prop) : Sp := fun vs H Q _ => ∃ (a : Addr) (xs : List V), vs = [.ref a, .ref g] ∧ SqT K H a xs ∧ (∀ x ∈ xs, good x) ∧ ∀ H', Same H H' → Q .non H'
theorem sc12 : FnScope ["things", "is_good", "place", "thing"] ["things", "is_good"] (defScope (top 12)) := ⟨rfl, rfl, rfl, by decide +kernel, rfl, by decide +kernel, by decide +kernel⟩
theorem pm12 (T : Txt P w K mg C fI W) {kg : Nat} {spg : Sp} {good : V → Prop} {g : Addr} {fdg : FuncData} {ps : List Str} (G : FnOk P w K mg base CX0 kg g fdg ps spg) (hk : PySem.W.keepIn K (.ref g) = true) (hb : Binds K fdg ps [])
    (hg : ∀ x H Q E, good x → Q (.bl true) H → spg [x] H Q E) : Pm P w K mg base CX0 (kg + 1) "first_bad" (spFirst K g good) := T.d12.pm fun f fd F => by
  refine F.ok sc12 (fun vs H Q E h => ?_) (fun cdv A outer s H vs Q E hr h => ?_)
  · obtain ⟨a, xs, rfl, _⟩ := h
    rfl
  · obtain ⟨a, xs, rfl, hs, hgood, k⟩ := h
    refine ⟨_, pss_cons (ps_for PassesOwn.never rfl (pi_enumT (by rfl) T.nEnum (pa_cons (pv 0) pa_nil)) (pg_tup rfl (pgs_cons (pg_name (i := 2) sc12.nd rfl (Or.inl rfl)) (pgs_cons (pg_name (i := 3) sc12.nd rfl (Or.inl rfl)) pgs_nil)))
      (pss_one (ps_if (pt_not (pt_val (pe_callL (i := 1) G hr rfl (.inl rfl) hk hb .nil pass0 (pa_cons (pv 3) pa_nil)))) (pss_one (ps_ret (pv 2))) pss_nil)))
      (pss_one (ps_ret pe_non)), ?_⟩
    refine ⟨_, rfl, a, xs, rfl, hs, for_it walk_enumT (fun i σ H2 => (∃ v v2, σ = [some (.ref a), some (.ref g), v, v2]) ∧ Same H H2) ⟨⟨none, none, rfl⟩, Same.refl H⟩ (fun i σ H2 _ ⟨_, s2⟩ => seqT s2 hs) ?_ ?_⟩
    · rintro i y σ H2 H3 hi ⟨⟨v, v2, rfl⟩, s2⟩ ⟨t, n, x, rfl, nt, rfl, hn, hx⟩
      obtain rfl := Option.some.inj hn
      refine ⟨t, _, rfl, .of upd_same, rfl, _, _, rfl, _, _, rfl, rfl, ?_⟩
      refine ⟨rfl, _, rfl, hg _ _ _ _ (hgood _ (List.mem_of_getElem? hx)) ⟨_, rfl, iteF ?_⟩⟩
      exact ⟨⟨_, _, rfl⟩, same_updR s2 (s2.free nt)⟩
    · rintro σ H2 ⟨⟨v, v2, rfl⟩, s2⟩
      exact k H2 s2
end
end K67
/-! The defs of arrays.py and habits.py. -/
namespace K67
open PySem PySem.Spec PyProof.Rows L2
def posl (l : List Int) : List Int := l.filter (fun i => decide (0 < i))
/-- an array that may be -/
structure GoodA (sh its : List Int) : Prop where
  len : sh.length ≤ 4
  side : ∀ s ∈ sh, 0 ≤ s ∧ s ≤ 400
  last : prodI (posl sh) ≤ 400
  many : (its.length : Int) = prodI sh
  few : its.length ≤ 400
/-- an array at p -/
def Arr (K : PySem.W.Frag) (H : Hp) (p : Addr) (sh its : List Int) : Prop := ∃ a b, SqT K H p [.ref a, .ref b] ∧ SqT K H a (sh.map V.int) ∧ SqT K H b (its.map V.int)
theorem Arr.same {K : PySem.W.Frag} {H H' : Hp} {p : Addr} {sh its : List Int} (s : Same H H') (h : Arr K H p sh its) : Arr K H' p sh its := by
  obtain ⟨a, b, h1, h2, h3⟩ := h
  exact ⟨a, b, seqT s h1, seqT s h2, seqT s h3⟩
/-- customs at p -/
def Cus (K : PySem.W.Frag) (H : Hp) (p : Addr) (cs : List (Str × Bool)) : Prop := ∃ as : List Addr, SqT K H p (as.map V.ref) ∧ as.length = cs.length ∧ ∀ (i : Nat) a c, as[i]? = some a → cs[i]? = some c → SqT K H a [.str c.1, .bl c.2]
theorem Cus.same {K : PySem.W.Frag} {H H' : Hp} {p : Addr} {cs : List (Str × Bool)} (s : Same H H') (h : Cus K H p cs) : Cus K H' p cs := by
  obtain ⟨as, h1, h2, h3⟩ := h
  exact ⟨as, seqT s h1, h2, fun i a c ha hc => seqT s (h3 i a c ha hc)⟩
/-- products of few small numbers -/
theorem prod_bound : ∀ (l : List Int), (∀ s ∈ l, 0 ≤ s ∧ s ≤ 400) → ∀ z : Int, 0 ≤ z → 0 ≤ l.foldl (· * ·) z ∧ l.foldl (· * ·) z ≤ z * 400 ^ l.length
  | [], _, z, hz => by simp [hz]
  | a :: r, h, z, hz => by
    have ⟨h1, h2⟩ := h a (List.mem_cons_self ..)
    have hza : 0 ≤ z * a := Int.mul_nonneg hz h1
    have ih := prod_bound r (fun s hs => h s (List.mem_cons_of_mem _ hs)) (z * a) hza
    refine ⟨ih.1, Int.le_trans ih.2 ?_⟩
    rw [List.length_cons, Int.pow_succ]
    have e : z * a ≤ z * 400 := Int.mul_le_mul_of_nonneg_left h2 hz
    have p : (0 : Int) ≤ 400 ^ r.length := Int.pow_nonneg (by decide)
    calc z * a * 400 ^ r.length ≤ z * 400 * 400 ^ r.length := Int.mul_le_mul_of_nonneg_right e p
      _ = z * (400 ^ r.length * 400) := by rw [Int.mul_assoc, Int.mul_comm 400]
theorem low_of {l : List Int} (hl : l.length ≤ 4) (h : ∀ s ∈ l, 0 ≤ s ∧ s ≤ 400) : Low l := by
  intro i hi
  have hb := prod_bound (l.take i) (fun s hs => h s (List.mem_of_mem_take hs)) 1 (by decide)
  have hn : (l.take i).length ≤ 4 := by rw [List.length_take]; omega
  have h4 : (400 : Int) ^ (l.take i).length ≤ 400 ^ 4 := by
    have hc : (l.take i).length = 0 ∨ (l.take i).length = 1 ∨ (l.take i).length = 2 ∨ (l.take i).length = 3 ∨ (l.take i).length = 4 := by omega
    rcases hc with e | e | e | e | e <;> (rw [e]; decide)
  have e : (400 : Int) ^ 4 = 25600000000 := by decide
  rw [e] at h4
  unfold prodI
  rw [Int.one_mul] at hb
  omega
theorem low_posl {l : List Int} (hl : l.length ≤ 4) (h : ∀ s ∈ l, 0 ≤ s ∧ s ≤ 400) : Low (posl l) :=
  low_of (Nat.le_trans (List.length_filter_le _ _) hl) fun s hs => h s (List.mem_filter.mp hs).1
def spSide : Sp := fun vs H Q _ => ∃ i, vs = [.int i] ∧ 0 ≤ i ∧ i ≤ 400 ∧ Q (.bl true) H
def spLast (K : PySem.W.Frag) : Sp := fun vs H Q _ => ∃ (a : Addr) (ns : List Int), vs = [.ref a] ∧ SqT K H a (ns.map V.int) ∧ ns.length ≤ 4 ∧ (∀ s ∈ ns, 0 ≤ s ∧ s ≤ 400) ∧ ∀ H', Same H H' → Q (.int (prodI (posl ns))) H'
def spShape (K : PySem.W.Frag) : Sp := fun vs H Q _ => ∃ (a : Addr) (ns : List Int), vs = [.ref a] ∧ SqT K H a (ns.map V.int) ∧ ns.length ≤ 4 ∧ (∀ s ∈ ns, 0 ≤ s ∧ s ≤ 400) ∧ prodI (posl ns) ≤ 400 ∧ ∀ H', Same H H' → Q (.bl true) H'
def spNeed (K : PySem.W.Frag) : Sp := fun vs H Q _ => ∃ (p : Addr) (sh its : List Int), vs = [.ref p] ∧ Arr K H p sh its ∧ GoodA sh its ∧ ∀ H', Same H H' → Q (.ref p) H'
def spHabit (K : PySem.W.Frag) : Sp := fun vs H Q _ => ∃ (a : Addr) (c : Str) (b : Bool), vs = [.ref a] ∧ SqT K H a [.str c, .bl b] ∧ c ∈ chain ∧ Q (.bl true) H
def spNeedC (K : PySem.W.Frag) : Sp := fun vs H Q _ => ∃ (p : Addr) (cs : List (Str × Bool)), vs = [.ref p] ∧ Cus K H p cs ∧ GoodC cs ∧ ∀ H', Same H H' → Q (.ref p) H'
theorem chain_flat : (chain.map V.str).all flatV = true := by decide
theorem in_chain {c : Str} {ws : List Str} (h : c ∈ ws) : inV (.str c) (ws.map V.str) = true := by
  unfold inV
  rw [List.any_eq_true]
  refine ⟨.str c, List.mem_map.mpr ⟨c, h, rfl⟩, ?_⟩
  show eqV (.str c) (.str c) = true
  unfold eqV
  simp
section
variable {P : Program} {w : World} {K : PySem.W.Frag} {mg : Str → Option Value} {base : Heap} {C fI W : Addr}
theorem sc17 : FnScope ["value"] ["value"] (defScope (top 17)) := ⟨rfl, rfl, rfl, by decide +kernel, rfl, by decide +kernel, by decide +kernel⟩
theorem ok17 (T : Txt P w K mg C fI W) {f : Addr} {fd : FuncData} (F : Fun K "is_one_side" "is_one_side" (top 17) f fd) : FnOk P w K mg base CX0 3 f fd ["value"] spSide := by
  refine F.ok sc17 (fun vs H Q E h => ?_) (fun cdv A outer s H vs Q E hr h => ?_)
  · obtain ⟨i, rfl, _⟩ := h
    rfl
  · obtain ⟨i, rfl, h1, h2, k⟩ := h
    obtain ⟨t, m⟩ := T.cSide
    refine ⟨_, pss_one (ps_ret (pe_f (pm9 T) hr pass0 (pa_cons (pv 0) (pa_cons pe_int (pa_cons (pe_glob (v := .int 400) rfl m ⟨_, rfl⟩) pa_nil))))), ?_⟩
    refine ⟨_, rfl, i, 0, 400, rfl, ?_⟩
    rw [decide_eq_true h1, decide_eq_true h2]
    exact k
theorem sc18 : FnScope ["sides", "side"] ["sides"] (defScope (top 18)) := ⟨rfl, rfl, rfl, by decide +kernel, rfl, by decide +kernel, by decide +kernel⟩
theorem pm18 (T : Txt P w K mg C fI W) : Pm P w K mg base CX0 2 "lasting_product" (spLast K) := T.d18.pm fun f fd F => by
  refine F.ok sc18 (fun vs H Q E h => ?_) (fun cdv A outer s H vs Q E hr h => ?_)
  · obtain ⟨a, ns, rfl, _⟩ := h
    rfl
  · obtain ⟨a, ns, rfl, hs, hl, hb, k⟩ := h
    refine ⟨_, pss_one (ps_ret (pe_f (pm11L T) hr pass0 (pa_cons (pe_lc (own := [("side", 1)]) (g := gName 1) rfl sc18.nd (pi_tup (pv 0)) (blkOk_by (own := [("side", 1)]) (N := ["sides", "side"]) (sc := defScope (top 18)) (by decide +kernel))
      (fun _ _ _ _ _ => pg_name (i := 1) sc18.nd rfl (Or.inl rfl)) (fun _ _ _ _ _ => pts_one (pt_cmpR op_gt (pv 1) pe_int (nomark _))) (fun _ _ _ _ _ => pv 1)) pa_nil))), ?_⟩
    refine ⟨_, rfl, a, rfl, ⟨_, hs⟩, fun D nD => lc_tup (K := K) (a := a) (xs := ns.map V.int) (fun i H2 => Same H H2 ∧ H2 D = some (.lst ((posl (ns.take i)).map V.int))) ⟨same_upd nD, upd_same⟩ (fun i H2 _ ⟨s2, _⟩ => seqT s2 hs) ?_ ?_⟩
    · rintro i y H2 hi ⟨s2, hD⟩
      obtain ⟨z, hz, rfl⟩ := map_get hi
      have ht : ns.take (i + 1) = ns.take i ++ [z] := by rw [List.take_add_one, hz]; rfl
      refine ⟨rfl, _, rfl, _, _, rfl, rfl, _, rfl, ?_⟩
      by_cases hz0 : z > 0
      · rw [decide_eq_true hz0]
        refine iteT ⟨_, rfl, _, hD, ?_, same_updR s2 nD, ?_⟩
        · rw [List.length_map]
          exact Nat.lt_of_le_of_lt (List.length_filter_le _ _) (Nat.lt_of_le_of_lt (by rw [List.length_take]; omega) (by decide : 4 < sizeLine))
        · rw [upd_same, ht]
          have e : posl (ns.take i ++ [z]) = posl (ns.take i) ++ [z] := by unfold posl; rw [List.filter_append]; simp [hz0]
          rw [e, List.map_append]
          rfl
      · rw [decide_eq_false hz0]
        refine iteF ⟨s2, ?_⟩
        rw [ht]
        have e : posl (ns.take i ++ [z]) = posl (ns.take i) := by unfold posl; rw [List.filter_append]; simp [hz0]
        rw [e]
        exact hD
    · rintro H2 ⟨s2, hD⟩
      rw [List.take_of_length_le (by rw [List.length_map]; exact Nat.le_refl _)] at hD
      exact ⟨D, posl ns, rfl, SqL.of hD, low_posl hl hb, k H2 s2⟩
theorem sc19 : FnScope ["value"] ["value"] (defScope (top 19)) := ⟨rfl, rfl, rfl, by decide +kernel, rfl, by decide +kernel, by decide +kernel⟩
theorem pm19 (T : Txt P w K mg C fI W) : Pm P w K mg base CX0 5 "is_shape" (spShape K) := T.d19.pm fun f fd F => by
  refine F.ok sc19 (fun vs H Q E h => ?_) (fun cdv A outer s H vs Q E hr h => ?_)
  · obtain ⟨a, ns, rfl, _⟩ := h
    rfl
  · obtain ⟨a, ns, rfl, hs, hl, hb, hp, k⟩ := h
    obtain ⟨t, m⟩ := T.cSides
    obtain ⟨t2, m2⟩ := T.cItems
    obtain ⟨g, fg, Fg, mg17, bg⟩ := T.d17.ex
    have FB : Pm P w K mg base CX0 4 "first_bad" (spFirst K g (fun x => ∃ i, x = .int i ∧ 0 ≤ i ∧ i ≤ 400)) := pm12 T (ok17 T Fg) Fg.kp bg fun x H Q E ⟨i, e, h1, h2⟩ q => ⟨i, by rw [e], h1, h2, q⟩
    refine ⟨_, pss_cons (ps_if (PW.pt (pw_or (pt_not (pt_val (pe_callB call_isi (by rfl) T.nIsi (by decide +kernel) (pa_cons (pv 0) (pa_cons (pe_bltn (v := .ty "tuple") (by rfl) T.nTup (by decide +kernel) rfl) pa_nil)))))
        (pw_or (pt_cmpR op_gt (pe_callB call_len (by rfl) T.nLen PySem.boot_len (pa_cons (pv 0) pa_nil)) (pe_glob (v := .int 4) rfl m ⟨_, rfl⟩) (nomark _))
        (pw_or1 (pt_cmpR op_notN (pe_f FB hr pass0 (pa_cons (pv 0) (pa_cons (pe_glob (v := .ref g) rfl mg17 rfl) pa_nil))) pe_non (nomark _)))))) (pss_one (ps_ret pe_bl)) pss_nil)
      (pss_one (ps_ret (pe_cmp (pc_le (pe_f (pm18 T) (hr.mono (by decide)) pass0 (pa_cons (pv 0) pa_nil)) (pe_glob (v := .int 400) rfl m2 ⟨_, rfl⟩)) rfl))), ?_⟩
    refine ⟨_, rfl, _, _, _, _, true, rfl, .ty _, ty_tup hs, kit_ty (by decide +kernel), _, rfl, iteF ?_⟩
    refine ⟨_, rfl, _, _, rfl, .inr ⟨_, hs, rfl⟩, _, _, rfl, rfl, _, rfl, ?_⟩
    have e : decide (((ns.map V.int).length : Int) > 4) = false := decide_eq_false (by rw [List.length_map]; omega)
    rw [e]
    refine iteF ⟨_, rfl, a, _, rfl, hs, ?_, fun H1 s1 => ?_⟩
    · intro x hx
      obtain ⟨z, hz, rfl⟩ := List.mem_map.mp hx
      exact ⟨z, rfl, hb z hz⟩
    · refine ⟨rfl, _, rfl, iteF ?_⟩
      refine ⟨_, rfl, a, ns, rfl, seqT s1 hs, hl, hb, fun H2 s2 => ?_⟩
      refine ⟨_, _, rfl, rfl, ?_⟩
      show Q (.bl (decide (prodI (posl ns) ≤ 400))) H2
      rw [decide_eq_true hp]
      exact k H2 (s1.trans s2)
theorem sc20 : FnScope ["array", "place"] ["array"] (defScope (top 20)) := ⟨rfl, rfl, rfl, by decide +kernel, rfl, by decide +kernel, by decide +kernel⟩
theorem pm20 (T : Txt P w K mg C fI W) : Pm P w K mg base CX0 6 "need_array" (spNeed K) := T.d20.pm fun f fd F => by
  refine F.ok sc20 (fun vs H Q E h => ?_) (fun cdv A outer s H vs Q E hr h => ?_)
  · obtain ⟨p, sh, its, rfl, _⟩ := h
    rfl
  · obtain ⟨p, sh, its, rfl, ⟨a, b, hp, ha, hb⟩, G, k⟩ := h
    obtain ⟨g, fg, Fg, mg8, bg⟩ := T.d8.ex
    have FB : Pm P w K mg base CX0 2 "first_bad" (spFirst K g (fun x => ∃ i, x = .int i)) := pm12 T (ok8 T Fg) Fg.kp bg fun x H Q E ⟨i, e⟩ q => ⟨i, by rw [e], q⟩
    refine ⟨_, pss_cons (ps_if (pt_not (pt_val (pe_f (pm10 T) (hr.mono (by decide)) pass0 (pa_cons (pv 0) (pa_cons pe_int pa_nil))))) pss_never pss_nil)
      (pss_cons (ps_if (pt_not (pt_val (pe_f (pm19 T) hr pass0 (pa_cons (pe_ix ix_tup (pv 0) pe_int (fun _ _ => rfl)) pa_nil)))) pss_never pss_nil)
      (pss_cons (ps_if (pt_not (pt_val (pe_f (pm10 T) (hr.mono (by decide)) pass0 (pa_cons (pe_ix ix_tup (pv 0) pe_int (fun _ _ => rfl)) (pa_cons (pe_f (pm11T T) (hr.mono (by decide)) pass0 (pa_cons (pe_ix ix_tup (pv 0) pe_int (fun _ _ => rfl)) pa_nil)) pa_nil))))) pss_never pss_nil)
      (pss_cons (ps_set (i := 1) sc20.nd rfl (Or.inl rfl) (pe_f FB (hr.mono (by decide)) pass0 (pa_cons (pe_ix ix_tup (pv 0) pe_int (fun _ _ => rfl)) (pa_cons (pe_glob (v := .ref g) rfl mg8 rfl) pa_nil))))
      (pss_cons (ps_if (pt_cmpR op_notN (pv 1) pe_non (nomark _)) pss_never pss_nil)
      (pss_one (ps_ret (pv 0))))))), ?_⟩
    refine ⟨_, rfl, p, _, 2, rfl, hp, _, rfl, iteF ?_⟩
    refine ⟨_, rfl, p, _, _, _, rfl, rfl, hp, at_of (j := 0) rfl rfl, a, sh, rfl, ha, G.len, G.side, G.last, fun H1 s1 => ⟨_, rfl, iteF ?_⟩⟩
    have hp1 := seqT s1 hp
    have ha1 := seqT s1 ha
    have hb1 := seqT s1 hb
    refine ⟨_, rfl, p, _, _, _, rfl, rfl, hp1, at_of (j := 1) rfl rfl, _, rfl, p, _, _, _, rfl, rfl, hp1, at_of (j := 0) rfl rfl, a, sh, rfl, ha1, low_of G.len G.side, ?_⟩
    refine ⟨b, _, _, rfl, hb1, _, rfl, ?_⟩
    have e : decide (((its.map V.int).length : Int) = prodI sh) = true := decide_eq_true (by rw [List.length_map]; exact G.many)
    rw [e]
    refine iteF ?_
    refine ⟨_, rfl, p, _, _, _, rfl, rfl, hp1, at_of (j := 1) rfl rfl, b, _, rfl, hb1, ?_, fun H2 s2 => ?_⟩
    · intro x hx
      obtain ⟨z, hz, rfl⟩ := List.mem_map.mp hx
      exact ⟨z, rfl⟩
    · exact ⟨_, rfl, rfl, _, rfl, iteF ⟨_, rfl, k H2 (s1.trans s2)⟩⟩
theorem sc23 : FnScope ["value"] ["value"] (defScope (top 23)) := ⟨rfl, rfl, rfl, by decide +kernel, rfl, by decide +kernel, by decide +kernel⟩
theorem pm23 (T : Txt P w K mg C fI W) : Pm P w K mg base CX0 2 "is_habit" (spHabit K) := T.d23.pm fun f fd F => by
  refine F.ok sc23 (fun vs H Q E h => ?_) (fun cdv A outer s H vs Q E hr h => ?_)
  · obtain ⟨a, c, b, rfl, _⟩ := h
    rfl
  · obtain ⟨a, c, b, rfl, hs, hc, k⟩ := h
    obtain ⟨t, m, hw⟩ := T.cHab
    refine ⟨_, pss_cons (ps_if (PW.pt (pw_or (pt_not (pt_val (pe_f (pm10 T) hr pass0 (pa_cons (pv 0) (pa_cons pe_int pa_nil)))))
        (pw_or (pt_not (pt_val (pe_callB call_isi (by rfl) T.nIsi (by decide +kernel) (pa_cons (pe_ix ix_tup (pv 0) pe_int (fun _ _ => rfl)) (pa_cons (pe_bltn (v := .ty "str") (by rfl) T.nStr (by decide +kernel) rfl) pa_nil)))))
        (pw_or1 (pt_cmpR op_notIn_seq (pe_ix ix_tup (pv 0) pe_int (fun _ _ => rfl)) (pe_glob (v := .ref t) rfl m rfl) (by rfl)))))) (pss_one (ps_ret pe_bl)) pss_nil)
      (pss_one (ps_ret (pe_or (pe_cmpR op_isBl (pe_ix ix_tup (pv 0) pe_int (fun _ _ => rfl)) pe_bl (nomark _)) (pe_one (pe_cmpR op_isBl (pe_ix ix_tup (pv 0) pe_int (fun _ _ => rfl)) pe_bl (nomark _)))))), ?_⟩
    refine ⟨_, rfl, a, _, 2, rfl, hs, _, rfl, iteF ?_⟩
    refine ⟨_, rfl, a, _, _, _, rfl, rfl, hs, at_of (j := 0) rfl rfl, _, _, _, _, true, rfl, .ty _, .base (.str c), kit_ty (by decide +kernel), _, rfl, iteF ?_⟩
    refine ⟨_, rfl, a, _, _, _, rfl, rfl, hs, at_of (j := 0) rfl rfl, t, _, rfl, .inr (hw _), rfl, chain_flat, _, rfl, ?_⟩
    rw [in_chain hc]
    refine iteF ?_
    refine ⟨_, rfl, a, _, _, _, rfl, rfl, hs, at_of (j := 1) rfl rfl, _, _, rfl, rfl, _, rfl, ?_⟩
    cases b with
    | true => exact iteT k
    | false => exact iteF ⟨_, rfl, a, _, _, _, rfl, rfl, hs, at_of (j := 1) rfl rfl, _, _, rfl, rfl, k⟩
theorem sc24 : FnScope ["customs", "number", "habit"] ["customs"] (defScope (top 24)) := ⟨rfl, rfl, rfl, by decide +kernel, rfl, by decide +kernel, by decide +kernel⟩
theorem pm24 (T : Txt P w K mg C fI W) : Pm P w K mg base CX0 3 "need_customs" (spNeedC K) := T.d24.pm fun f fd F => by
  refine F.ok sc24 (fun vs H Q E h => ?_) (fun cdv A outer s H vs Q E hr h => ?_)
  · obtain ⟨p, cs, rfl, _⟩ := h
    rfl
  · obtain ⟨p, cs, rfl, ⟨as, hp, hl, hat⟩, ⟨h3, hch⟩, k⟩ := h
    refine ⟨_, pss_cons (ps_if (pt_not (pt_val (pe_f (pm10 T) (hr.mono (by decide)) pass0 (pa_cons (pv 0) (pa_cons pe_int pa_nil))))) pss_never pss_nil)
      (pss_cons (ps_for PassesOwn.never rfl (pi_enumT (by rfl) T.nEnum (pa_cons (pv 0) pa_nil)) (pg_tup rfl (pgs_cons (pg_name (i := 1) sc24.nd rfl (Or.inl rfl)) (pgs_cons (pg_name (i := 2) sc24.nd rfl (Or.inl rfl)) pgs_nil)))
        (pss_one (ps_if (pt_not (pt_val (pe_f (pm23 T) hr pass0 (pa_cons (pv 2) pa_nil)))) pss_never pss_nil)))
      (pss_one (ps_ret (pv 0)))), ?_⟩
    refine ⟨_, rfl, p, _, 3, rfl, hp, _, rfl, ?_⟩
    have e : decide (((as.map V.ref).length : Int) = 3) = true := decide_eq_true (by rw [List.length_map, hl, h3]; rfl)
    rw [e]
    refine iteF ?_
    refine ⟨_, rfl, p, _, rfl, hp, for_it walk_enumT (fun i σ H2 => (∃ v v2, σ = [some (.ref p), v, v2]) ∧ Same H H2) ⟨⟨none, none, rfl⟩, Same.refl H⟩ (fun i σ H2 _ ⟨_, s2⟩ => seqT s2 hp) ?_ ?_⟩
    · rintro i y σ H2 H3 hi ⟨⟨v, v2, rfl⟩, s2⟩ ⟨t, n, x, rfl, nt, rfl, hn, hx⟩
      obtain rfl := Option.some.inj hn
      obtain ⟨a, ha, rfl⟩ := map_get hx
      have hi2 : i < cs.length := by rw [← hl]; exact (List.getElem?_eq_some_iff.mp ha).1
      have hc : cs[i]? = some cs[i] := List.getElem?_eq_getElem hi2
      refine ⟨t, _, rfl, .of upd_same, rfl, _, _, rfl, _, _, rfl, rfl, ?_⟩
      refine ⟨_, rfl, a, cs[i].1, cs[i].2, rfl, seqT (same_updR s2 (s2.free nt)) (hat i a _ ha hc), hch _ (List.mem_of_getElem? hc), _, rfl, iteF ?_⟩
      exact ⟨⟨_, _, rfl⟩, same_updR s2 (s2.free nt)⟩
    · rintro σ H2 ⟨⟨v, v2, rfl⟩, s2⟩
      exact ⟨_, rfl, k H2 s2⟩
end
end K67
/-! The functions of words.py. -/
namespace K67
open PySem PySem.Spec PyProof.Rows L2 TL
/-! ### words of integers, cut -/
/-- the figures of n -/
def wF (n : Int) : Str := wI (n.natAbs : Int)
theorem tl_wF (n : Int) : tl (wF n) = numL n.natAbs := tl_wI_nat n.natAbs
theorem wI_small {n : Int} (h : n.natAbs < 10 ^ 31) : (wI n).length ≤ sizeLine := Nat.le_trans (wI_len h) (by decide)
def wMinus : Str := ("-" : String)
theorem tl_minus : tl wMinus = [45] := by decide +kernel
theorem cut_head (z : Str) : tl (cutS z none (some 1)) = (tl z).take 1 := by
  show (((tl z).drop (HT.sIx z.length 0 none)).take (HT.sIx z.length z.length (some ((1 : Nat) : Int)) - HT.sIx z.length 0 none)) = _
  rw [HT.sIx_none, HT.sIx_nat, List.drop_zero, Nat.sub_zero, len_tl]
  by_cases h : 1 ≤ (tl z).length
  · rw [Nat.min_eq_left h]
  · have e : tl z = [] := List.length_eq_zero_iff.mp (by omega)
    rw [e]; rfl
theorem cut_tail (z : Str) : tl (cutS z (some 1) none) = (tl z).drop 1 := by
  show (((tl z).drop (HT.sIx z.length 0 (some ((1 : Nat) : Int)))).take (HT.sIx z.length z.length none - HT.sIx z.length 0 (some ((1 : Nat) : Int)))) = _
  rw [HT.sIx_none, HT.sIx_nat, len_tl]
  by_cases h : 1 ≤ (tl z).length
  · rw [Nat.min_eq_left h]
    exact List.take_of_length_le (by rw [List.length_drop]; exact Nat.le_refl _)
  · have e : tl z = [] := List.length_eq_zero_iff.mp (by omega)
    rw [e]; rfl
theorem head_neg {n : Int} (h : n < 0) : cutS (wI n) none (some 1) = wMinus := ext_tl (by
  rw [cut_head, tl_wI, if_pos h, tl_minus]; rfl)
theorem head_pos {n : Int} (h : ¬ n < 0) : cutS (wI n) none (some 1) ≠ wMinus := fun e => by
  have e2 := congrArg tl e
  rw [cut_head, tl_wI, if_neg h, tl_minus] at e2
  have : 45 ∈ numL n.natAbs := List.mem_of_mem_take (by rw [e2]; exact List.mem_singleton.mpr rfl)
  exact num45 _ this
theorem tail_neg {n : Int} (h : n < 0) : cutS (wI n) (some 1) none = wF n := ext_tl (by
  rw [cut_tail, tl_wI, if_pos h, tl_wF]; rfl)
theorem wF_pos {n : Int} (h : ¬ n < 0) : wI n = wF n := ext_tl (by rw [tl_wI, if_neg h, tl_wF])
theorem wF_len {n : Int} : (wF n).length = figs n := by rw [len_tl, tl_wF]; rfl
theorem figs_pos (n : Int) : 1 ≤ figs n := List.length_pos_iff.mpr (numL_ne n.natAbs)
theorem digits_in {n : Int} {i c : Nat} (h : (wF n).cps[i]? = some c) : c ∈ tl (("0123456789" : String) : Str) := by
  have hm : c ∈ numL n.natAbs := by
    rw [← tl_wF]
    exact List.mem_of_getElem? (i := i) (by rw [← h]; simp [tl])
  have hd : 48 ≤ c ∧ c ≤ 57 := numL_digits n.natAbs c hm
  have e : tl (("0123456789" : String) : Str) = [48, 49, 50, 51, 52, 53, 54, 55, 56, 57] := by decide +kernel
  rw [e]
  simp
  omega
theorem wI_zero : wI 0 = (("0" : String) : Str) := by decide +kernel
theorem wF_head (n : Int) : ∃ c, (tl (wF n))[0]? = some c ∧ (c = 48 → n = 0) := by
  rw [tl_wF]
  cases e : numL n.natAbs with
  | nil => exact absurd e (numL_ne _)
  | cons c r =>
    refine ⟨c, rfl, fun hc => ?_⟩
    have := numL_head n.natAbs (by rw [e, hc]; rfl)
    omega
theorem str48 : ((⟨#[48]⟩ : Str)) = (("0" : String) : Str) := by decide +kernel
theorem pe_imp {X : Cx} {e : Expr} {t t' : TE} (he : PE X e t) (h : ∀ σ H Q, t' σ H Q → t σ H Q) : PE X e t' := ⟨fun pins s σ H Q I q => he.run pins s σ H Q I (h σ H Q q)⟩
/-- the figures of the word in slot 0 -/
def tFigs : TE := fun σ H Q => ∃ n : Int, σ[0]? = some (some (.str (wI n))) ∧ n.natAbs < 10 ^ 31 ∧ Q (.str (wF n)) H
def spFigures : Sp := fun vs H Q _ => ∃ i : Int, vs = [.int i] ∧ i.natAbs < 10 ^ 100 ∧ Q (.int (figs i)) H
def spByWord : Sp := fun vs H Q _ => ∃ n : Int, vs = [.str (wI n)] ∧ n.natAbs < 10 ^ 31 ∧ ∀ H', Same H H' → Q (.int n) H'
def spRows : Sp := fun vs H Q _ => ∃ t : Str, vs = [.str t] ∧ t.length + 2 ≤ sizeLine ∧ ∀ p, H p = none → Q (.ref p) (upd H p (.lst ((Txt.split t nl).map V.str)))
theorem log2_lt {n k : Nat} (h : n < 2 ^ k) (hk : 0 < k) : n.log2 < k := by
  by_cases h0 : n = 0
  · rw [h0]; simpa using hk
  · exact (Nat.log2_lt h0).mpr h
theorem if_true_of {c : Bool} {A B : Prop} (hc : c = true) (h : A) : if c = true then A else B := by
  rw [if_pos hc]
  exact h
theorem if_false_of {c : Bool} {A B : Prop} (hc : c = false) (h : B) : if c = true then A else B := by
  rw [hc, if_neg Bool.false_ne_true]
  exact h
section
variable {P : Program} {w : World} {K : PySem.W.Frag} {mg : Str → Option Value} {base : Heap} {C fI W : Addr}
theorem sc32 : FnScope ["number"] ["number"] (defScope (top 32)) := ⟨rfl, rfl, rfl, by decide +kernel, rfl, by decide +kernel, by decide +kernel⟩
theorem pm32 (T : Txt P w K mg C fI W) : Pm P w K mg base CX0 1 "figures_of" spFigures := T.d32.pm fun f fd F => by
  refine F.ok sc32 (fun vs H Q E h => ?_) (fun cdv A outer s H vs Q E hr h => ?_)
  · obtain ⟨i, rfl, _⟩ := h
    rfl
  · obtain ⟨i, rfl, hi, k⟩ := h
    refine ⟨_, pss_one (ps_ret (pe_callB call_len_str (by rfl) T.nLen PySem.boot_len (pa_cons (pe_callTy call_str_int (by rfl) T.nStr (by decide +kernel) (pa_cons (pe_callB call_abs (by rfl) T.nAbs (by decide +kernel) (pa_cons (pv 0) pa_nil)) pa_nil)) pa_nil))), ?_⟩
    have e := figs_abs i
    have hl : (wI (if i < 0 then -i else i)).length ≤ sizeLine := by
      rw [e]
      exact Nat.le_trans (numL_len (k := 100) (by decide) hi) (by decide)
    refine ⟨_, rfl, _, rfl, _, rfl, ?_, _, rfl, hl, ?_⟩
    · have hn : (if i < 0 then -i else i).natAbs = i.natAbs := by split <;> omega
      rw [hn]
      exact Nat.lt_of_lt_of_le (log2_lt (k := 400) (Nat.lt_of_lt_of_le hi (by decide +kernel)) (by decide)) (by decide)
    · show Q (.int ((wI (if i < 0 then -i else i)).length : Nat)) H
      rw [e]
      exact k
theorem sc33 : FnScope ["word", "figures", "sign"] ["word"] (defScope (top 33)) := ⟨rfl, rfl, rfl, by decide +kernel, rfl, by decide +kernel, by decide +kernel⟩
theorem pm33 (T : Txt P w K mg C fI W) : Pm P w K mg base CX0 1 "integer_by_word" spByWord := T.d33.pm fun f fd F => by
  refine F.ok sc33 (fun vs H Q E h => ?_) (fun cdv A outer s H vs Q E hr h => ?_)
  · obtain ⟨n, rfl, _⟩ := h
    rfl
  · obtain ⟨n, rfl, hn, k⟩ := h
    obtain ⟨tf, mf⟩ := T.cFigs
    obtain ⟨td, md⟩ := T.cDigits
    refine ⟨_, pss_cons (ps_set (i := 1) sc33.nd rfl (Or.inl rfl) (pe_imp (t' := tFigs) (pe_ifExp (pt_cmpR op_eq (pe_slice sl_str (pv 0) po_none (po_some pe_int)) pe_str (nomark _)) (pe_slice sl_str (pv 0) (po_some pe_int) po_none) (pv 0)) fun σ H Q => by
        rintro ⟨n, h0, hn, q⟩
        refine ⟨_, h0, _, rfl, _, rfl, wI_small hn, rfl, _, rfl, ?_⟩
        show if decide (V.str (cutS (wI n) none (some 1)) = V.str wMinus) = true then _ else _
        by_cases hneg : n < 0
        · rw [decide_eq_true (by rw [head_neg hneg])]
          refine iteT ⟨_, h0, _, rfl, _, rfl, wI_small hn, ?_⟩
          rw [tail_neg hneg]
          exact q
        · rw [decide_eq_false (fun e => head_pos hneg (V.str.inj e))]
          refine iteF ⟨_, h0, ?_⟩
          rw [wF_pos hneg]
          exact q))
      (pss_cons (ps_if (PW.pt (pw_or (pt_not (pt_chain op_le op_le pe_int (pe_callB call_len_str (by rfl) T.nLen PySem.boot_len (pa_cons (pv 1) pa_nil)) (pe_glob (v := .int 31) rfl mf ⟨_, rfl⟩)))
          (pw_or1 (pt_not (pt_val (pe_callB (cr_all rfl) (by rfl) T.nAll (by decide +kernel) (pa_cons (pe_lc (own := [("sign", 2)]) (g := gName 2) (tt := tYes) rfl sc33.nd (pi_str (pv 1)) (blkOk_by (own := [("sign", 2)]) (N := ["word", "figures", "sign"]) (sc := defScope (top 33)) (by decide +kernel))
            (fun _ _ _ _ _ => pg_name (i := 2) sc33.nd rfl (Or.inl rfl)) (fun _ _ _ _ _ => pts_nil) (fun _ _ _ _ _ => pe_cmpR op_in_sign (pv 2) (pe_glob (v := .str (("0123456789" : String) : Str)) rfl md ⟨_, rfl⟩) rfl)) pa_nil))))))) (pss_one (ps_ret pe_non)) pss_nil)
      (pss_cons (ps_if (PW.pt (pw_and (pt_cmpR op_eq (pe_ix ix_str (pv 1) pe_int (fun _ _ => rfl)) pe_str (nomark _)) (pw_and1 (pt_cmpR op_ne (pv 0) pe_str (nomark _))))) (pss_one (ps_ret pe_non)) pss_nil)
      (pss_one (ps_ret (pe_callTy call_int_str (by rfl) T.nInt (by decide +kernel) (pa_cons (pv 0) pa_nil)))))), ?_⟩
    have hf : (wF n).length ≤ sizeLine := by rw [wF_len]; exact Nat.le_trans (figs_le hn) (by decide)
    have hl1 : decide ((1 : Int) ≤ ((wF n).length : Nat)) = true := decide_eq_true (by rw [wF_len]; have := figs_pos n; omega)
    have hl2 : decide ((((wF n).length : Nat) : Int) ≤ 31) = true := decide_eq_true (by rw [wF_len]; have := figs_le hn; omega)
    refine ⟨n, rfl, hn, ?_⟩
    refine ⟨_, rfl, _, rfl, hf, _, _, rfl, rfl, _, rfl, ?_⟩
    rw [hl1]
    refine iteT ⟨_, _, rfl, rfl, _, rfl, ?_⟩
    rw [hl2]
    refine iteF ?_
    refine ⟨_, rfl, _, rfl, fun D nD => lc_it walk_str (fun i H2 => Same H H2 ∧ ∃ bs : List Bool, H2 D = some (.lst (bs.map V.bl)) ∧ bs.length = i ∧ bs.all id = true) ⟨same_upd nD, [], upd_same, rfl, rfl⟩ (fun _ _ _ _ => trivial) ?_ ?_⟩
    · rintro i x H2 H3 hi ⟨s2, bs, hD, hb, ha⟩ ⟨rfl, c, hc, rfl⟩
      refine ⟨rfl, _, rfl, c, _, rfl, rfl, bs.map V.bl, hD, ?_, same_updR s2 nD, bs ++ [true], ?_, ?_, ?_⟩
      · rw [List.length_map, hb]
        exact Nat.lt_of_lt_of_le hi hf
      · rw [upd_same, decide_eq_true (digits_in hc), List.map_append]
        rfl
      · rw [List.length_append, hb]; rfl
      · rw [List.all_append, ha]; rfl
    · rintro H2 ⟨s2, bs, hD, hb, ha⟩
      refine ⟨D, bs, rfl, SqL.of hD, _, rfl, ?_⟩
      rw [ha]
      refine iteF ?_
      obtain ⟨c, hc, hc0⟩ := wF_head n
      refine ⟨_, rfl, _, 0, c, rfl, rfl, hf, (show atI (tl (wF n)) ((0 : Nat) : Int) = some c from atI_nat hc), rfl, _, rfl, ?_⟩
      have fin : PySem.intText? (wI n) = some n := intText_wI hn
      have hl : (wI n).length ≤ 640 := Nat.le_trans (wI_len hn) (by decide)
      by_cases h48 : c = 48
      · have h0 := hc0 h48
        subst h0
        subst h48
        have e48 : decide (V.str ⟨#[48]⟩ = V.str (("0" : String) : Str)) = true := decide_eq_true (by rw [str48])
        refine if_true_of e48 ⟨_, rfl, rfl, _, rfl, ?_⟩
        have e0 : (!decide (V.str (wI 0) = V.str (("0" : String) : Str))) = false := by rw [wI_zero]; simp
        refine if_false_of e0 ?_
        exact ⟨_, rfl, _, 0, rfl, fin, hl, k _ s2⟩
      · have e48 : decide (V.str ⟨#[c]⟩ = V.str (("0" : String) : Str)) = false := decide_eq_false fun e => h48 (by
          have e2 := V.str.inj e
          rw [← str48] at e2
          have e3 := congrArg (fun z : Str => z.cps.toList) e2
          simpa using e3)
        refine if_false_of e48 ?_
        exact ⟨_, rfl, _, n, rfl, fin, hl, k _ s2⟩
theorem sc34 : FnScope ["text"] ["text"] (defScope (top 34)) := ⟨rfl, rfl, rfl, by decide +kernel, rfl, by decide +kernel, by decide +kernel⟩
theorem pm34 (T : Txt P w K mg C fI W) : Pm P w K mg base CX0 1 "text_rows" spRows := T.d34.pm fun f fd F => by
  refine F.ok sc34 (fun vs H Q E h => ?_) (fun cdv A outer s H vs Q E hr h => ?_)
  · obtain ⟨t, rfl, _⟩ := h
    rfl
  · obtain ⟨t, rfl, hz, k⟩ := h
    obtain ⟨te, me⟩ := T.cEnd
    refine ⟨_, pss_cons (ps_if (pt_not (pt_val (pe_callB call_isi (by rfl) T.nIsi (by decide +kernel) (pa_cons (pv 0) (pa_cons (pe_bltn (v := .ty "str") (by rfl) T.nStr (by decide +kernel) rfl) pa_nil))))) pss_never pss_nil)
      (pss_one (ps_ret (pe_split (pv 0) (pe_glob (v := .str nl) rfl me ⟨_, rfl⟩)))), ?_⟩
    refine ⟨_, rfl, _, _, _, _, true, rfl, .ty _, .base (.str t), kit_ty (by decide +kernel), _, rfl, iteF ?_⟩
    exact ⟨_, rfl, ⟨_, rfl⟩, t, nl, rfl, rfl, by decide +kernel, hz, k⟩
end
end K67
/-! The class WordRow. -/
namespace K67
open PySem PySem.Spec PyProof.Rows L2 TL
def f1 (line : V) : List (Str × V) := [("line", line)]
def f2 (line : V) (l : Addr) : List (Str × V) := [("line", line), ("words", .ref l)]
def f3 (line : V) (l : Addr) (i : Int) : List (Str × V) := [("line", line), ("words", .ref l), ("at", .int i)]
def f4 (line : V) (l : Addr) (i t : Int) : List (Str × V) := [("line", line), ("words", .ref l), ("at", .int i), ("told", .int t)]
/-- a row's fields -/
def rf (line : V) (l : Addr) (i t : Int) : List (Str × V) := [("line", line), ("words", .ref l), ("at", .int i), ("told", .int t), ("deep", .int 0)]
theorem n1 : ¬ (("line" : Str) = "words") := by decide +kernel
theorem n2 : ¬ (("line" : Str) = "at") := by decide +kernel
theorem n3 : ¬ (("line" : Str) = "told") := by decide +kernel
theorem n4 : ¬ (("line" : Str) = "deep") := by decide +kernel
theorem n5 : ¬ (("words" : Str) = "at") := by decide +kernel
theorem n6 : ¬ (("words" : Str) = "told") := by decide +kernel
theorem n7 : ¬ (("words" : Str) = "deep") := by decide +kernel
theorem n8 : ¬ (("at" : Str) = "told") := by decide +kernel
theorem n9 : ¬ (("at" : Str) = "deep") := by decide +kernel
theorem n10 : ¬ (("told" : Str) = "deep") := by decide +kernel
theorem put1 (line : V) : putF "line" line [] = f1 line := rfl
theorem put2 (line : V) (l : Addr) : putF "words" (.ref l) (f1 line) = f2 line l := by
  show (if ("line" : Str) = "words" then _ else _) = _
  rw [if_neg n1]; rfl
theorem put3 (line : V) (l : Addr) (i : Int) : putF "at" (.int i) (f2 line l) = f3 line l i := by
  show (if ("line" : Str) = "at" then _ else (("line" : Str), line) :: (if ("words" : Str) = "at" then _ else _)) = _
  rw [if_neg n2, if_neg n5]; rfl
theorem put4 (line : V) (l : Addr) (i t : Int) : putF "told" (.int t) (f3 line l i) = f4 line l i t := by
  show (if ("line" : Str) = "told" then _ else (("line" : Str), line) :: (if ("words" : Str) = "told" then _ else (("words" : Str), V.ref l) :: (if ("at" : Str) = "told" then _ else _))) = _
  rw [if_neg n3, if_neg n6, if_neg n8]; rfl
theorem put5 (line : V) (l : Addr) (i t : Int) : putF "deep" (.int 0) (f4 line l i t) = rf line l i t := by
  show (if ("line" : Str) = "deep" then _ else (("line" : Str), line) :: (if ("words" : Str) = "deep" then _ else (("words" : Str), V.ref l) :: (if ("at" : Str) = "deep" then _ else (("at" : Str), V.int i) :: (if ("told" : Str) = "deep" then _ else _)))) = _
  rw [if_neg n4, if_neg n7, if_neg n9, if_neg n10]; rfl
theorem put_at (line : V) (l : Addr) (i j t : Int) : putF "at" (.int j) (rf line l i t) = rf line l j t := by
  show (if ("line" : Str) = "at" then _ else (("line" : Str), line) :: (if ("words" : Str) = "at" then _ else (("words" : Str), V.ref l) :: (if ("at" : Str) = "at" then _ else _))) = _
  rw [if_neg n2, if_neg n5, if_pos rfl]; rfl
theorem put_told (line : V) (l : Addr) (i j t : Int) : putF "told" (.int j) (rf line l i t) = rf line l i j := by
  show (if ("line" : Str) = "told" then _ else (("line" : Str), line) :: (if ("words" : Str) = "told" then _ else (("words" : Str), V.ref l) :: (if ("at" : Str) = "told" then _ else (("at" : Str), V.int i) :: (if ("told" : Str) = "told" then _ else _)))) = _
  rw [if_neg n3, if_neg n6, if_neg n8, if_pos rfl]; rfl
theorem rf_words (line : V) (l : Addr) (i t : Int) : (rf line l i t).lookup ("words" : Str) = some (.ref l) := by
  rw [← put5, ← put4, ← put3, ← put2, lookup_putF, if_neg n7, lookup_putF, if_neg n6, lookup_putF, if_neg n5, lookup_putF, if_pos rfl]
theorem rf_at (line : V) (l : Addr) (i t : Int) : (rf line l i t).lookup ("at" : Str) = some (.int i) := by
  rw [← put5, ← put4, ← put3, lookup_putF, if_neg n9, lookup_putF, if_neg n8, lookup_putF, if_pos rfl]
theorem rf_told (line : V) (l : Addr) (i t : Int) : (rf line l i t).lookup ("told" : Str) = some (.int t) := by
  rw [← put5, ← put4, lookup_putF, if_neg n10, lookup_putF, if_pos rfl]
theorem rf_no (line : V) (l : Addr) (i t : Int) {m : Str} (h1 : ¬ m = "line") (h2 : ¬ m = "words") (h3 : ¬ m = "at") (h4 : ¬ m = "told") (h5 : ¬ m = "deep") : (rf line l i t).lookup m = none := by
  rw [← put5, ← put4, ← put3, ← put2, ← put1, lookup_putF, if_neg h5, lookup_putF, if_neg h4, lookup_putF, if_neg h3, lookup_putF, if_neg h2, lookup_putF, if_neg h1]
  rfl
/-- a row of words at r: the next is the i-th, t words told -/
def RowAt (W : Addr) (H : Hp) (r : Addr) (ws : List Str) (i : Nat) (t : Int) : Prop := ∃ dx l line, H r = some (.ins W dx (rf line l (i : Nat) t)) ∧ H l = some (.lst (ws.map V.str)) ∧ ws.length ≤ 1000000
/-- all but r stands -/
def But (r : Addr) (H H' : Hp) : Prop := ∀ b o, H b = some o → b ≠ r → H' b = some o
theorem But.refl (r : Addr) (H : Hp) : But r H H := fun _ _ e _ => e
theorem But.trans {r : Addr} {H H1 H2 : Hp} (a : But r H H1) (b : But r H1 H2) : But r H H2 := fun c o e n => b c o (a c o e n) n
theorem But.of {r : Addr} {H H' : Hp} (a : Same H H') : But r H H' := fun c o e _ => a c o e
theorem But.same {r : Addr} {H H1 H2 : Hp} (a : Same H H1) (b : But r H1 H2) (h : H r = none) : Same H H2 := fun c o e => b c o (a c o e) (ne_of_none e h)
theorem But.new {r : Addr} {H H1 : Hp} {p : Addr} {o : HO} (a : But r H H1) (h : H p = none) : But r H (upd H1 p o) := fun c u e n => by
  rw [upd_ne (ne_of_none e h)]; exact a c u e n
theorem But.free {r : Addr} {H H' : Hp} (a : But r H H') {l : Addr} (h : H' l = none) (n : l ≠ r) : H l = none := by
  cases q : H l with
  | none => rfl
  | some o => rw [a l o q n] at h; cases h
theorem RowAt.same {W : Addr} {H H' : Hp} {r : Addr} {ws : List Str} {i : Nat} {t : Int} (s : Same H H') (h : RowAt W H r ws i t) : RowAt W H' r ws i t := by
  obtain ⟨dx, l, line, h1, h2, h3⟩ := h
  exact ⟨dx, l, line, s _ _ h1, s _ _ h2, h3⟩
theorem RowAt.ne {W : Addr} {H : Hp} {r : Addr} {ws : List Str} {i : Nat} {t : Int} (h : RowAt W H r ws i t) {p : Addr} (hp : H p = none) : r ≠ p := by
  obtain ⟨dx, l, line, h1, h2, h3⟩ := h
  exact ne_of_none h1 hp
def spInit (W : Addr) : Sp := fun vs H Q _ => ∃ (r dx : Addr) (line : V) (t : Str), vs = [.ref r, line, .str t] ∧ H r = some (.ins W dx []) ∧ t.length + 2 ≤ sizeLine ∧ (Txt.split t sp).length ≤ 1000000 ∧
  ∀ H', RowAt W H' r (Txt.split t sp) 0 0 → But r H H' → Q .non H'
/-- the next word, None at the end -/
def ahead (ws : List Str) (i : Nat) : V := match ws[i]? with
  | some x => .str x
  | none => .non
def spAhead (W : Addr) : Sp := fun vs H Q _ => ∃ (r : Addr) (ws : List Str) (i : Nat) (t : Int), vs = [.ref r] ∧ RowAt W H r ws i t ∧ Q (ahead ws i) H
def spRead (W : Addr) : Sp := fun vs H Q _ => ∃ (r : Addr) (ws : List Str) (i : Nat) (t : Int) (x : Str), vs = [.ref r] ∧ RowAt W H r ws i t ∧ ws[i]? = some x ∧ ∀ H', RowAt W H' r ws (i + 1) t → But r H H' → Q (.str x) H'
def spTold (K : PySem.W.Frag) (W : Addr) : Sp := fun vs H Q _ => ∃ (r q : Addr) (ws ys : List Str) (i : Nat) (t : Int) (x : Str), vs = [.ref r, .ref q] ∧ RowAt W H r ws i t ∧ SqT K H q (ys.map V.str) ∧ ws[i]? = some x ∧ x ∈ ys ∧ t < 60 ∧
  ∀ H', RowAt W H' r ws (i + 1) (t + 1) → But r H H' → Q (.str x) H'
def spMark (W : Addr) : Sp := fun vs H Q _ => ∃ (r : Addr) (ws : List Str) (i : Nat) (t : Int) (x : Str), vs = [.ref r, .str x] ∧ RowAt W H r ws i t ∧ ws[i]? = some x ∧ ∀ H', RowAt W H' r ws (i + 1) t → But r H H' → Q .non H'
def spInte (W : Addr) : Sp := fun vs H Q _ => ∃ (r : Addr) (ws : List Str) (i : Nat) (t : Int) (n : Int), vs = [.ref r] ∧ RowAt W H r ws i t ∧ ws[i]? = some (wI n) ∧ n.natAbs < 10 ^ 31 ∧ ∀ H', RowAt W H' r ws (i + 1) t → But r H H' → Q (.int n) H'
def spEnd (W : Addr) : Sp := fun vs H Q _ => ∃ (r : Addr) (ws : List Str) (i : Nat) (t : Int), vs = [.ref r] ∧ RowAt W H r ws i t ∧ ws[i]? = none ∧ Q .non H
theorem ahead_some {ws : List Str} {i : Nat} {x : Str} (h : ws[i]? = some x) : ahead ws i = .str x := by unfold ahead; rw [h]
theorem ahead_none {ws : List Str} {i : Nat} (h : ws[i]? = none) : ahead ws i = .non := by unfold ahead; rw [h]
section
variable {P : Program} {w : World} {K : PySem.W.Frag} {mg : Str → Option Value} {base : Heap} {C fI W : Addr}
theorem scI : FnScope ["self", "line", "text"] ["self", "line", "text"] (defScope (inClass (top 37) 0)) := ⟨rfl, rfl, rfl, by decide +kernel, rfl, by decide +kernel, by decide +kernel⟩
theorem pmI (T : Txt P w K mg C fI W) : Pe P w K mg base CX0 1 W "__init__" (spInit W) := T.mInit.pe fun f fd F => by
  refine F.ok scI (fun vs H Q E h => ?_) (fun cdv A outer s H vs Q E hr h => ?_)
  · obtain ⟨r, dx, line, t, rfl, _⟩ := h
    rfl
  · obtain ⟨r, dx, line, t, rfl, hp, hz, hz2, k⟩ := h
    obtain ⟨tb, mb⟩ := T.cBlank
    refine ⟨_, pss_cons (ps_fld (pv 0) (pv 1) rfl) (pss_cons (ps_fld (pv 0) (pe_split (pv 2) (pe_glob (v := .str sp) rfl mb ⟨_, rfl⟩)) rfl)
      (pss_cons (ps_fld (pv 0) pe_int rfl) (pss_cons (ps_fld (pv 0) pe_int rfl) (pss_one (ps_fld (pv 0) pe_int rfl))))), ?_⟩
    refine ⟨_, rfl, _, rfl, r, W, dx, [], rfl, hp, T.row, T.aLine, (by show 0 < 1000; decide), ?_⟩
    refine ⟨_, rfl, ⟨_, rfl⟩, t, sp, rfl, rfl, by decide +kernel, hz, fun l hl => ?_⟩
    have n0 : r ≠ l := fun z => by rw [z, upd_same] at hl; cases hl
    have e1 : (upd (upd H r (.ins W dx (putF "line" line []))) l (.lst ((Txt.split t sp).map V.str))) r = some (.ins W dx (f1 line)) := by rw [upd_ne n0, upd_same]; rfl
    refine ⟨_, rfl, r, W, dx, _, rfl, e1, T.row, T.aWords, (by show 1 < 1000; decide), ?_⟩
    refine ⟨_, rfl, r, W, dx, _, rfl, upd_same.trans (congrArg (fun q => some (HO.ins W dx q)) (put2 line l)), T.row, T.aAt, (by show 2 < 1000; decide), ?_⟩
    refine ⟨_, rfl, r, W, dx, _, rfl, upd_same.trans (congrArg (fun q => some (HO.ins W dx q)) (put3 line l 0)), T.row, T.aTold, (by show 3 < 1000; decide), ?_⟩
    refine ⟨_, rfl, r, W, dx, _, rfl, upd_same.trans (congrArg (fun q => some (HO.ins W dx q)) (put4 line l 0 0)), T.row, T.aDeep, (by show 4 < 1000; decide), ?_⟩
    refine k _ ⟨dx, l, line, upd_same.trans (congrArg (fun q => some (HO.ins W dx q)) (put5 line l 0 0)), ?_, hz2⟩ fun b o e hb => ?_
    · rw [upd_ne n0.symm, upd_ne n0.symm, upd_ne n0.symm, upd_ne n0.symm, upd_same]
    · have nl : H l = none := by
        rw [upd_ne n0.symm] at hl; exact hl
      rw [upd_ne hb, upd_ne hb, upd_ne hb, upd_ne hb, upd_ne (ne_of_none e nl), upd_ne hb]
      exact e
theorem scA : FnScope ["self"] ["self"] (defScope (inClass (top 37) 1)) := ⟨rfl, rfl, rfl, by decide +kernel, rfl, by decide +kernel, by decide +kernel⟩
theorem pmA (T : Txt P w K mg C fI W) : Pe P w K mg base CX0 1 W "word_ahead" (spAhead W) := T.mAhead.pe fun f fd F => by
  refine F.ok scA (fun vs H Q E h => ?_) (fun cdv A outer s H vs Q E hr h => ?_)
  · obtain ⟨r, ws, i, t, rfl, _⟩ := h
    rfl
  · obtain ⟨r, ws, i, t, rfl, ⟨dx, l, line, h1, h2, h3⟩, k⟩ := h
    refine ⟨_, pss_one (ps_ret (pe_ifExp (pt_cmpR op_lt (pe_fld (pv 0) rfl) (pe_callB call_len (by rfl) T.nLen PySem.boot_len (pa_cons (pe_fld (pv 0) rfl) pa_nil)) (nomark _)) (pe_ix ix_list (pe_fld (pv 0) rfl) (pe_fld (pv 0) rfl) (fun _ _ => rfl)) pe_non)), ?_⟩
    refine ⟨_, rfl, r, W, dx, _, _, rfl, h1, T.row, T.aAt, rf_at _ _ _ _, _, rfl, r, W, dx, _, _, rfl, h1, T.row, T.aWords, rf_words _ _ _ _, _, _, rfl, .inl ⟨_, SqL.of h2, rfl⟩, _, _, rfl, rfl, _, rfl, ?_⟩
    cases e : ws[i]? with
    | none =>
      rw [ahead_none e] at k
      have hi : ¬ ((i : Int) < ((ws.map V.str).length : Nat)) := by
        rw [List.length_map]
        have := List.getElem?_eq_none_iff.mp e
        omega
      exact if_false_of (decide_eq_false hi) k
    | some x =>
      rw [ahead_some e] at k
      have hi : ((i : Int) < ((ws.map V.str).length : Nat)) := by
        rw [List.length_map]
        have := (List.getElem?_eq_some_iff.mp e).1
        omega
      refine if_true_of (decide_eq_true hi) ⟨_, rfl, r, W, dx, _, _, rfl, h1, T.row, T.aWords, rf_words _ _ _ _, _, rfl, r, W, dx, _, _, rfl, h1, T.row, T.aAt, rf_at _ _ _ _, l, _, _, _, rfl, rfl, SqL.of h2, at_of (j := i) (v := .str x) rfl (by rw [List.getElem?_map, e]; rfl), k⟩
theorem scR : FnScope ["self", "word"] ["self"] (defScope (inClass (top 37) 3)) := ⟨rfl, rfl, rfl, by decide +kernel, rfl, by decide +kernel, by decide +kernel⟩
theorem pmR (T : Txt P w K mg C fI W) : Pe P w K mg base CX0 2 W "word_read" (spRead W) := T.mRead.pe fun f fd F => by
  refine F.ok scR (fun vs H Q E h => ?_) (fun cdv A outer s H vs Q E hr h => ?_)
  · obtain ⟨r, ws, i, t, x, rfl, _⟩ := h
    rfl
  · obtain ⟨r, ws, i, t, x, rfl, R, hx, k⟩ := h
    obtain ⟨dx, l, line, h1, h2, h3⟩ := id R
    refine ⟨_, pss_cons (ps_set (i := 1) scR.nd rfl (Or.inl rfl) (pe_mt0 (pv 0) T.row (pmA T) hr pass0))
      (pss_cons (ps_if (pt_cmpR op_isN (pv 1) pe_non (nomark _)) pss_never pss_nil)
      (pss_cons (ps_fld (pv 0) (pe_op op_add (pe_fld (pv 0) rfl) pe_int) rfl) (pss_one (ps_ret (pv 1))))), ?_⟩
    have no : (rf line l (i : Nat) t).lookup ("word_ahead" : Str) = none := rf_no _ _ _ _ (by decide +kernel) (by decide +kernel) (by decide +kernel) (by decide +kernel) (by decide +kernel)
    refine ⟨_, rfl, r, dx, _, rfl, h1, no, r, ws, i, t, rfl, R, ?_⟩
    rw [ahead_some hx]
    refine ⟨_, rfl, rfl, _, rfl, iteF ?_⟩
    refine ⟨_, rfl, r, W, dx, _, _, rfl, h1, T.row, T.aAt, rf_at _ _ _ _, _, _, rfl, rfl, _, rfl, r, W, dx, _, rfl, h1, T.row, T.aAt, (by show 5 < 1000; decide), _, rfl, ?_⟩
    refine k _ ⟨dx, l, line, upd_same.trans (congrArg (fun q => some (HO.ins W dx q)) (put_at line l _ _ t)), ?_, h3⟩ fun b o e hb => by rw [upd_ne hb]; exact e
    rw [upd_ne (ne_of h2 h1 (by intro z; cases z))]
    exact h2
end
end K67
/-! The class WordRow: what takes words; rows of texts. -/
namespace K67
open PySem PySem.Spec PyProof.Rows L2 TL
theorem no_of {line : V} {l : Addr} {i t : Int} {m : Str} (h : (m = "line" ∨ m = "words" ∨ m = "at" ∨ m = "told" ∨ m = "deep") → False) : (rf line l i t).lookup m = none :=
  rf_no _ _ _ _ (fun e => h (.inl e)) (fun e => h (.inr (.inl e))) (fun e => h (.inr (.inr (.inl e)))) (fun e => h (.inr (.inr (.inr (.inl e))))) (fun e => h (.inr (.inr (.inr (.inr e)))))
theorem noAhead {line : V} {l : Addr} {i t : Int} : (rf line l i t).lookup ("word_ahead" : Str) = none := no_of (by decide +kernel)
theorem noRead {line : V} {l : Addr} {i t : Int} : (rf line l i t).lookup ("word_read" : Str) = none := no_of (by decide +kernel)
theorem noTold {line : V} {l : Addr} {i t : Int} : (rf line l i t).lookup ("take_told" : Str) = none := no_of (by decide +kernel)
theorem noMark {line : V} {l : Addr} {i t : Int} : (rf line l i t).lookup ("take_mark" : Str) = none := no_of (by decide +kernel)
theorem noInte {line : V} {l : Addr} {i t : Int} : (rf line l i t).lookup ("take_integer" : Str) = none := no_of (by decide +kernel)
theorem noNeed {line : V} {l : Addr} {i t : Int} : (rf line l i t).lookup ("need_row_end" : Str) = none := no_of (by decide +kernel)
theorem all_flat (ws : List Str) : (ws.map V.str).all flatV = true := by
  rw [List.all_eq_true]
  intro x hx
  obtain ⟨y, _, rfl⟩ := List.mem_map.mp hx
  rfl
section
variable {P : Program} {w : World} {K : PySem.W.Frag} {mg : Str → Option Value} {base : Heap} {C fI W : Addr}
theorem scT : FnScope ["self", "some"] ["self", "some"] (defScope (inClass (top 37) 4)) := ⟨rfl, rfl, rfl, by decide +kernel, rfl, by decide +kernel, by decide +kernel⟩
theorem pmT (T : Txt P w K mg C fI W) : Pe P w K mg base CX0 3 W "take_told" (spTold K W) := T.mTold.pe fun f fd F => by
  refine F.ok scT (fun vs H Q E h => ?_) (fun cdv A outer s H vs Q E hr h => ?_)
  · obtain ⟨r, q, ws, ys, i, t, x, rfl, _⟩ := h
    rfl
  · obtain ⟨r, q, ws, ys, i, t, x, rfl, R, hq, hx, hy, ht, k⟩ := h
    obtain ⟨dx, l, line, h1, h2, h3⟩ := id R
    obtain ⟨tw, mw⟩ := T.cWords
    refine ⟨_, pss_cons (ps_if (PW.pt (pw_or (pt_cmpR op_isN (pe_mt0 (pv 0) T.row (pmA T) (hr.mono (by decide)) pass0) pe_non (nomark _))
        (pw_or (pt_cmpR op_notIn_seq (pe_mt0 (pv 0) T.row (pmA T) (hr.mono (by decide)) pass0) (pv 1) (by rfl))
        (pw_or1 (pt_cmpR op_eq (pe_fld (pv 0) rfl) (pe_glob (v := .int 60) rfl mw ⟨_, rfl⟩) (nomark _)))))) pss_never pss_nil)
      (pss_cons (ps_fld (pv 0) (pe_op op_add (pe_fld (pv 0) rfl) pe_int) rfl)
      (pss_one (ps_ret (pe_mt0 (pv 0) T.row (pmR T) hr pass0)))), ?_⟩
    refine ⟨_, rfl, r, dx, _, rfl, h1, noAhead, r, ws, i, t, rfl, R, ?_⟩
    rw [ahead_some hx]
    refine ⟨rfl, _, rfl, iteF ?_⟩
    refine ⟨_, rfl, r, dx, _, rfl, h1, noAhead, r, ws, i, t, rfl, R, ?_⟩
    rw [ahead_some hx]
    refine ⟨_, rfl, q, _, rfl, .inr hq, rfl, all_flat ys, _, rfl, ?_⟩
    rw [in_chain hy]
    refine iteF ?_
    refine ⟨_, rfl, r, W, dx, _, _, rfl, h1, T.row, T.aTold, rf_told _ _ _ _, rfl, _, rfl, ?_⟩
    have e60 : decide (V.int t = V.int 60) = false := decide_eq_false (fun e => by
      have := V.int.inj e
      omega)
    refine if_false_of e60 ?_
    refine ⟨_, rfl, r, W, dx, _, _, rfl, h1, T.row, T.aTold, rf_told _ _ _ _, _, _, rfl, rfl, _, rfl, r, W, dx, _, rfl, h1, T.row, T.aTold, (by show 5 < 1000; decide), ?_⟩
    have nl : l ≠ r := ne_of h2 h1 (by intro z; cases z)
    have e1 : (upd H r (.ins W dx (putF "told" (.int (t + 1)) (rf line l (i : Nat) t)))) r = some (.ins W dx (rf line l (i : Nat) (t + 1))) := upd_same.trans (congrArg (fun q => some (HO.ins W dx q)) (put_told line l _ (t + 1) t))
    refine ⟨_, rfl, r, dx, _, rfl, e1, noRead, r, ws, i, t + 1, x, rfl, ⟨dx, l, line, e1, by rw [upd_ne nl]; exact h2, h3⟩, hx, fun H' R' b' => ?_⟩
    exact k H' R' fun b o e hb => b' b o (by rw [upd_ne hb]; exact e) hb
theorem scM : FnScope ["self", "mark"] ["self", "mark"] (defScope (inClass (top 37) 6)) := ⟨rfl, rfl, rfl, by decide +kernel, rfl, by decide +kernel, by decide +kernel⟩
theorem pmM (T : Txt P w K mg C fI W) : Pe P w K mg base CX0 3 W "take_mark" (spMark W) := T.mMark.pe fun f fd F => by
  refine F.ok scM (fun vs H Q E h => ?_) (fun cdv A outer s H vs Q E hr h => ?_)
  · obtain ⟨r, ws, i, t, x, rfl, _⟩ := h
    rfl
  · obtain ⟨r, ws, i, t, x, rfl, R, hx, k⟩ := h
    obtain ⟨dx, l, line, h1, h2, h3⟩ := id R
    refine ⟨_, pss_cons (ps_if (pt_cmpR op_ne (pe_mt0 (pv 0) T.row (pmA T) (hr.mono (by decide)) pass0) (pv 1) (nomark _)) pss_never pss_nil)
      (pss_one (ps_expr (pe_mt0 (pv 0) T.row (pmR T) hr pass0))), ?_⟩
    refine ⟨_, rfl, r, dx, _, rfl, h1, noAhead, r, ws, i, t, rfl, R, ?_⟩
    rw [ahead_some hx]
    refine ⟨_, rfl, rfl, _, rfl, iteNS rfl ?_⟩
    exact ⟨_, rfl, r, dx, _, rfl, h1, noRead, r, ws, i, t, x, rfl, R, hx, fun H' R' b' => k H' R' b'⟩
theorem scN : FnScope ["self", "word", "found"] ["self"] (defScope (inClass (top 37) 9)) := ⟨rfl, rfl, rfl, by decide +kernel, rfl, by decide +kernel, by decide +kernel⟩
theorem pmN (T : Txt P w K mg C fI W) : Pe P w K mg base CX0 3 W "take_integer" (spInte W) := T.mInte.pe fun f fd F => by
  refine F.ok scN (fun vs H Q E h => ?_) (fun cdv A outer s H vs Q E hr h => ?_)
  · obtain ⟨r, ws, i, t, n, rfl, _⟩ := h
    rfl
  · obtain ⟨r, ws, i, t, n, rfl, R, hx, hn, k⟩ := h
    obtain ⟨dx, l, line, h1, h2, h3⟩ := id R
    refine ⟨_, pss_cons (ps_set (i := 1) scN.nd rfl (Or.inl rfl) (pe_mt0 (pv 0) T.row (pmA T) (hr.mono (by decide)) pass0))
      (pss_cons (ps_set (i := 2) scN.nd rfl (Or.inl rfl) (pe_ifExp (pt_cmpR op_isN (pv 1) pe_non (nomark _)) pe_non (pe_f (pm33 T) (hr.mono (by decide)) pass0 (pa_cons (pv 1) pa_nil))))
      (pss_cons (ps_if (pt_cmpR op_isN (pv 2) pe_non (nomark _)) pss_never pss_nil)
      (pss_cons (ps_expr (pe_mt0 (pv 0) T.row (pmR T) hr pass0)) (pss_one (ps_ret (pv 2)))))), ?_⟩
    refine ⟨_, rfl, r, dx, _, rfl, h1, noAhead, r, ws, i, t, rfl, R, ?_⟩
    rw [ahead_some hx]
    refine ⟨_, rfl, rfl, _, rfl, iteF ?_⟩
    refine ⟨_, rfl, n, rfl, hn, fun H1 s1 => ?_⟩
    refine ⟨_, rfl, rfl, _, rfl, iteF ?_⟩
    exact ⟨_, rfl, r, dx, _, rfl, s1 _ _ h1, noRead, r, ws, i, t, wI n, rfl, R.same s1, hx, fun H' R' b' => ⟨_, rfl, k H' R' (But.trans (.of s1) b')⟩⟩
theorem scE : FnScope ["self"] ["self"] (defScope (inClass (top 37) 12)) := ⟨rfl, rfl, rfl, by decide +kernel, rfl, by decide +kernel, by decide +kernel⟩
theorem pmE (T : Txt P w K mg C fI W) : Pe P w K mg base CX0 2 W "need_row_end" (spEnd W) := T.mNeed.pe fun f fd F => by
  refine F.ok scE (fun vs H Q E h => ?_) (fun cdv A outer s H vs Q E hr h => ?_)
  · obtain ⟨r, ws, i, t, rfl, _⟩ := h
    rfl
  · obtain ⟨r, ws, i, t, rfl, R, hx, k⟩ := h
    obtain ⟨dx, l, line, h1, h2, h3⟩ := id R
    refine ⟨_, pss_one (ps_if (pt_cmpR op_notN (pe_mt0 (pv 0) T.row (pmA T) hr pass0) pe_non (nomark _)) pss_never pss_nil), ?_⟩
    refine ⟨_, rfl, r, dx, _, rfl, h1, noAhead, r, ws, i, t, rfl, R, ?_⟩
    rw [ahead_none hx]
    exact ⟨rfl, _, rfl, iteF k⟩
/-! ### a text of one row -/
def spLone (W : Addr) : Sp := fun vs H Q _ => ∃ (t : Str), vs = [.str t] ∧ t.length + 2 ≤ sizeLine ∧ (Txt.split t sp).length ≤ 1000000 ∧ Txt.split t nl = [t] ∧
  ∀ H' p r, Same H H' → H r = none → p ≠ r → RowAt W H' r (Txt.split t sp) 0 0 → H' p = some (.tup [.ref r, .non]) → Q (.ref p) H'
def spTextEnd (W : Addr) : Sp := fun vs H Q _ => ∃ (r : Addr) (ws : List Str) (i : Nat) (t : Int), vs = [.ref r, .non] ∧ RowAt W H r ws i t ∧ ws[i]? = none ∧ Q .non H
theorem sc35 : FnScope ["text", "rows"] ["text"] (defScope (top 35)) := ⟨rfl, rfl, rfl, by decide +kernel, rfl, by decide +kernel, by decide +kernel⟩
theorem pm35 (T : Txt P w K mg C fI W) : Pm P w K mg base CX0 3 "lone_word_row" (spLone W) := T.d35.pm fun f fd F => by
  refine F.ok sc35 (fun vs H Q E h => ?_) (fun cdv A outer s H vs Q E hr h => ?_)
  · obtain ⟨t, rfl, _⟩ := h
    rfl
  · obtain ⟨t, rfl, hz, hz2, hone, k⟩ := h
    obtain ⟨fi, fdi, psi, Gi, Mi, bi⟩ := (pmI (P := P) (base := base) T).ex
    refine ⟨_, pss_cons (ps_set (i := 1) sc35.nd rfl (Or.inl rfl) (pe_f (pm34 T) (hr.mono (by decide)) pass0 (pa_cons (pv 0) pa_nil)))
      (pss_one (ps_ret (pe_tup (pa_cons (pe_make ⟨T.mRow, Mi.at_, Mi.fn, T.kRow⟩ Gi hr rfl T.gRow bi .nil pass0 (pa_cons pe_int (pa_cons (pe_ix ix_list (pv 1) pe_int (fun _ _ => rfl)) pa_nil)))
        (pa_cons (pe_ifExp (pt_cmpR op_gt (pe_callB call_len (by rfl) T.nLen PySem.boot_len (pa_cons (pv 1) pa_nil)) pe_int (nomark _)) pe_int pe_non) pa_nil))))), ?_⟩
    refine ⟨_, rfl, t, rfl, hz, fun l nl' => ?_⟩
    rw [hone]
    refine ⟨_, rfl, l, _, _, _, rfl, rfl, SqL.of upd_same, at_of (j := 0) rfl rfl, fun x dx hx hdx ne => ?_⟩
    refine ⟨x, dx, .int 0, t, rfl, upd_same, hz, hz2, fun H1 R1 b1 => ⟨rfl, ?_⟩⟩
    have s1 : Same (upd H l (.lst ([t].map V.str))) H1 := fun b o e => b1 b o (by rw [upd_ne (ne_of_none e hx), upd_ne (ne_of_none e hdx)]; exact e) (ne_of_none e hx)
    refine ⟨_, rfl, _, _, rfl, .inl ⟨_, SqL.of (s1 _ _ upd_same), rfl⟩, _, _, rfl, rfl, _, rfl, ?_⟩
    refine iteF ⟨by show 2 ≤ sizeLine; decide, fun p hp => ?_⟩
    have hHx : H x = none := by
      cases e : H x with
      | none => rfl
      | some o => exact absurd hx (by rw [upd_ne (ne_of_none e nl'), e]; simp)
    exact k _ p x (same_updR (Same.trans (same_upd nl') s1) ((Same.trans (same_upd nl') s1).free hp)) hHx (fun z => RowAt.ne R1 hp z.symm) (R1.same (same_upd hp)) upd_same
theorem sc36 : FnScope ["row", "beyond"] ["row", "beyond"] (defScope (top 36)) := ⟨rfl, rfl, rfl, by decide +kernel, rfl, by decide +kernel, by decide +kernel⟩
theorem pm36 (T : Txt P w K mg C fI W) : Pm P w K mg base CX0 3 "need_text_end" (spTextEnd W) := T.d36.pm fun f fd F => by
  refine F.ok sc36 (fun vs H Q E h => ?_) (fun cdv A outer s H vs Q E hr h => ?_)
  · obtain ⟨r, ws, i, t, rfl, _⟩ := h
    rfl
  · obtain ⟨r, ws, i, t, rfl, R, hx, k⟩ := h
    obtain ⟨dx, l, line, h1, h2, h3⟩ := id R
    refine ⟨_, pss_cons (ps_expr (pe_mt0 (pv 0) T.row (pmE T) hr pass0)) (pss_one (ps_if (pt_cmpR op_notN (pv 1) pe_non (nomark _)) pss_never pss_nil)), ?_⟩
    exact ⟨_, rfl, r, dx, _, rfl, h1, noNeed, r, ws, i, t, rfl, R, hx, _, rfl, rfl, _, rfl, iteF k⟩
end
end K67
/-! The defs of texts.py that tell. -/
namespace K67
open PySem PySem.Spec PyProof.Rows L2 TL
def wS (n : Int) : V := .str (wI n)
/-- what TooGreat leaves -/
def XGreat (E : XK) (C : Addr) (H : Hp) : Prop := ∀ H' d, Same H H' → H d = none → H' d = some (.xd [(("most" : Str), .int 31)]) → E (.ref C) (some d) H'
def Big (ns : List Int) : Prop := ∃ n ∈ ns, 31 < figs n
def Fit (ns : List Int) : Prop := ∀ n ∈ ns, figs n ≤ 31
theorem fit_or (ns : List Int) : Fit ns ∨ Big ns := by
  by_cases h : Big ns
  · exact .inr h
  · refine .inl fun n hn => ?_
    by_cases h2 : figs n ≤ 31
    · exact h2
    · exact absurd ⟨n, hn, by omega⟩ h
theorem fit_small {ns : List Int} (h : ∀ n ∈ ns, n.natAbs < 10 ^ 31) : Fit ns := fun n hn => figs_le (h n hn)
theorem wI_len_figs (n : Int) : (wI n).length ≤ figs n + 1 := by
  rw [len_tl, tl_wI]
  unfold figs
  split
  · rw [List.length_cons]; exact Nat.le_refl _
  · omega
theorem any_big {ns : List Int} : ((ns.map fun n => decide ((figs n : Int) > 31)).any id) = true ↔ Big ns := by
  rw [List.any_map, List.any_eq_true]
  constructor
  · rintro ⟨n, hn, h⟩
    have h2 : (figs n : Int) > 31 := by simpa using h
    exact ⟨n, hn, by omega⟩
  · rintro ⟨n, hn, h⟩
    exact ⟨n, hn, by simpa using (show (31 : Int) < (figs n : Int) by omega)⟩
def spIntWords (K : PySem.W.Frag) (C : Addr) : Sp := fun vs H Q E => ∃ (a : Addr) (ns : List Int), vs = [.ref a] ∧ SqT K H a (ns.map V.int) ∧ (∀ n ∈ ns, n.natAbs < 10 ^ 100) ∧ ns.length ≤ 1000 ∧
  (Fit ns → ∀ H' p, Same H H' → H p = none → H' p = some (.lst (ns.map wS)) → Q (.ref p) H') ∧ (Big ns → XGreat E C H)
def spArrWords (K : PySem.W.Frag) (C : Addr) : Sp := fun vs H Q E => ∃ (p : Addr) (sh its : List Int), vs = [.ref p] ∧ Arr K H p sh its ∧ GoodA sh its ∧ (∀ n ∈ its, n.natAbs < 10 ^ 100) ∧
  (Fit its → ∀ H' p, Same H H' → H p = none → H' p = some (.lst ((aWords sh its).map V.str)) → Q (.ref p) H') ∧ (Big its → XGreat E C H)
def spArrText (K : PySem.W.Frag) (C : Addr) : Sp := fun vs H Q E => ∃ (p : Addr) (sh its : List Int), vs = [.ref p] ∧ Arr K H p sh its ∧ GoodA sh its ∧ (∀ n ∈ its, n.natAbs < 10 ^ 100) ∧
  (Fit its → ∀ H', Same H H' → Q (.str (aText sh its)) H') ∧ (Big its → XGreat E C H)
theorem side_small {sh its : List Int} (G : GoodA sh its) : ∀ n ∈ sh, n.natAbs < 10 ^ 31 := fun n hn => by
  have ⟨h1, h2⟩ := G.side n hn
  have : n.natAbs ≤ 400 := by omega
  exact Nat.lt_of_le_of_lt this (by decide)
theorem pow31 : (10 : Nat) ^ 31 ≤ 10 ^ 100 := by decide
theorem lens_le {ws : List Str} {k : Nat} (h : ∀ w ∈ ws, w.length ≤ k) : (ws.map (·.length)).sum ≤ ws.length * k := by
  induction ws with
  | nil => simp
  | cons a r ih =>
    have h1 := h a (List.mem_cons_self ..)
    have h2 := ih fun w hw => h w (List.mem_cons_of_mem _ hw)
    rw [List.map_cons, List.sum_cons, List.length_cons, Nat.succ_mul]
    omega
theorem aWords_len (sh its : List Int) : (aWords sh its).length = sh.length + its.length + 3 := by
  unfold aWords
  simp
  omega
theorem aWords_small {sh its : List Int} (G : GoodA sh its) (h : Fit its) : ∀ w ∈ aWords sh its, w.length ≤ 33 := by
  intro w hw
  simp only [aWords, List.mem_cons, List.mem_append, List.mem_map, List.not_mem_nil, or_false] at hw
  rcases hw with rfl | ⟨i, hi, rfl⟩ | rfl | ⟨i, hi, rfl⟩ | rfl
  · decide +kernel
  · exact Nat.le_trans (wI_len (side_small G i hi)) (by decide)
  · decide +kernel
  · exact Nat.le_trans (wI_len_figs i) (by have := h i hi; omega)
  · decide +kernel
theorem aJoin_small {sh its : List Int} (G : GoodA sh its) (h : Fit its) : ((aWords sh its).map (·.length)).sum + (aWords sh its).length * sp.length ≤ 16777216 := by
  have h1 := lens_le (aWords_small G h)
  have h2 := aWords_len sh its
  have h3 : sp.length = 1 := by decide +kernel
  have h4 := G.len
  have h5 := G.few
  rw [h3]
  omega
section
variable {P : Program} {w : World} {K : PySem.W.Frag} {mg : Str → Option Value} {base : Heap} {C fI W : Addr}
theorem sc41 : FnScope ["numbers", "number"] ["numbers"] (defScope (top 41)) := ⟨rfl, rfl, rfl, by decide +kernel, rfl, by decide +kernel, by decide +kernel⟩
theorem pm41 (T : Txt P w K mg C fI W) : Pm P w K mg base (L2.CX P w) 2 "integer_words" (spIntWords K C) := T.d41.pm fun f fd F => by
  refine F.okX sc41 (fun vs H Q E h => ?_) (fun cdv A outer s H vs Q E hr h => ?_)
  · obtain ⟨a, ns, rfl, _⟩ := h
    rfl
  · obtain ⟨a, ns, rfl, hs, hb, hl, k, kx⟩ := h
    obtain ⟨tf, mf⟩ := T.cFigs
    have hline : ∀ i, i ≤ ns.length → i < sizeLine := fun i hi => Nat.lt_of_le_of_lt (Nat.le_trans hi hl) (by decide)
    refine ⟨_, pss_cons (ps_if (pt_val (pe_callB (cr_any rfl) (by rfl) T.nAny (by decide +kernel) (pa_cons (pe_lc (own := [("number", 1)]) (g := gName 1) (tt := tYes) rfl sc41.nd (pi_tup (pv 0)) (blkOk_by (own := [("number", 1)]) (N := ["numbers", "number"]) (sc := defScope (top 41)) (by decide +kernel))
          (fun _ _ _ _ _ => pg_name (i := 1) sc41.nd rfl (Or.inl rfl)) (fun _ _ _ _ _ => pts_nil) (fun _ _ _ _ _ => pe_cmp (pc_gt (pe_f (pm32 T) hr pass0 (pa_cons (pv 1) pa_nil)) (pe_glob (v := .int 31) rfl mf ⟨_, rfl⟩)) rfl)) pa_nil)))
        (pss_one (ps_raiseGreat rfl T.great hr (takes_of rfl rfl rfl rfl) (pa_cons (pe_glob (v := .int 31) rfl mf ⟨_, rfl⟩) pa_nil))) pss_nil)
      (pss_one (ps_ret (pe_lc (own := [("number", 1)]) (g := gName 1) (tt := tYes) rfl sc41.nd (pi_tup (pv 0)) (blkOk_by (own := [("number", 1)]) (N := ["numbers", "number"]) (sc := defScope (top 41)) (by decide +kernel))
          (fun _ _ _ _ _ => pg_name (i := 1) sc41.nd rfl (Or.inl rfl)) (fun _ _ _ _ _ => pts_nil) (fun _ _ _ _ _ => pe_callTy call_str_int (by rfl) T.nStr (by decide +kernel) (pa_cons (pv 1) pa_nil))))), ?_⟩
    refine ⟨_, rfl, a, rfl, ⟨_, hs⟩, fun D nD => lc_tup (K := K) (a := a) (xs := ns.map V.int) (fun i H2 => Same H H2 ∧ H2 D = some (.lst (((ns.take i).map fun n => decide ((figs n : Int) > 31)).map V.bl))) ⟨same_upd nD, upd_same⟩ (fun i H2 _ ⟨s2, _⟩ => seqT s2 hs) ?_ ?_⟩
    · rintro i y H2 hi ⟨s2, hD⟩
      obtain ⟨z, hz, rfl⟩ := map_get hi
      have hlt := (List.getElem?_eq_some_iff.mp hz).1
      have ht : ns.take (i + 1) = ns.take i ++ [z] := by rw [List.take_add_one, hz]; rfl
      refine ⟨rfl, _, rfl, z, rfl, hb z (List.mem_of_getElem? hz), _, _, rfl, rfl, _, hD, ?_, same_updR s2 nD, ?_⟩
      · rw [List.length_map, List.length_map, List.length_take]
        exact Nat.lt_of_le_of_lt (Nat.min_le_left ..) (hline i (Nat.le_of_lt hlt))
      · rw [upd_same, ht, List.map_append, List.map_append]
        rfl
    · rintro H2 ⟨s2, hD⟩
      rw [List.take_of_length_le (by rw [List.length_map]; exact Nat.le_refl _)] at hD
      refine ⟨D, _, rfl, SqL.of hD, _, rfl, ?_⟩
      rcases fit_or ns with hf | hg
      · have e : ((ns.map fun n => decide ((figs n : Int) > 31)).any id) = false := by
          cases e : ((ns.map fun n => decide ((figs n : Int) > 31)).any id) with
          | false => rfl
          | true =>
            obtain ⟨n, hn, h⟩ := any_big.mp e
            have := hf n hn
            omega
        refine if_false_of e ?_
        refine ⟨_, rfl, a, rfl, ⟨_, seqT s2 hs⟩, fun D2 nD2 => lc_tup (K := K) (a := a) (xs := ns.map V.int) (fun i H3 => Same H H3 ∧ H3 D2 = some (.lst ((ns.take i).map wS))) ⟨same_updR s2 (s2.free nD2), upd_same⟩ (fun i H3 _ ⟨s3, _⟩ => seqT s3 hs) ?_ ?_⟩
        · rintro i y H3 hi ⟨s3, hD3⟩
          obtain ⟨z, hz, rfl⟩ := map_get hi
          have hlt := (List.getElem?_eq_some_iff.mp hz).1
          have ht : ns.take (i + 1) = ns.take i ++ [z] := by rw [List.take_add_one, hz]; rfl
          refine ⟨rfl, _, rfl, z, rfl, ?_, _, hD3, ?_, same_updR s3 (s2.free nD2), ?_⟩
          · exact Nat.lt_of_lt_of_le (log2_lt (k := 400) (Nat.lt_of_lt_of_le (hb z (List.mem_of_getElem? hz)) (by decide +kernel)) (by decide)) (by decide)
          · rw [List.length_map, List.length_take]
            exact Nat.lt_of_le_of_lt (Nat.min_le_left ..) (hline i (Nat.le_of_lt hlt))
          · rw [upd_same, ht, List.map_append]
            rfl
        · rintro H3 ⟨s3, hD3⟩
          rw [List.take_of_length_le (by rw [List.length_map]; exact Nat.le_refl _)] at hD3
          exact k hf H3 D2 s3 (s2.free nD2) hD3
      · refine if_true_of (any_big.mpr hg) ?_
        exact ⟨_, rfl, fun d hd => kx hg _ d (same_updR s2 (s2.free hd)) (s2.free hd) upd_same⟩
theorem sc42 : FnScope ["array"] ["array"] (defScope (top 42)) := ⟨rfl, rfl, rfl, by decide +kernel, rfl, by decide +kernel, by decide +kernel⟩
theorem pm42 (T : Txt P w K mg C fI W) : Pm P w K mg base (L2.CX P w) 3 "array_words" (spArrWords K C) := T.d42.pm fun f fd F => by
  refine F.okX sc42 (fun vs H Q E h => ?_) (fun cdv A outer s H vs Q E hr h => ?_)
  · obtain ⟨p, sh, its, rfl, _⟩ := h
    rfl
  · obtain ⟨p, sh, its, rfl, ⟨a, b, hp, ha, hb⟩, G, hn, k, kx⟩ := h
    refine ⟨_, pss_one (ps_ret (pe_op op_cat (pe_op op_cat (pe_op op_cat (pe_op op_cat (pe_lst (pa_cons pe_str pa_nil)) (pe_f (pm41 T) hr (passes_call (takes_of rfl rfl rfl rfl) (fun _ _ _ _ h => h)) (pa_cons (pe_ix ix_tup (pv 0) pe_int (fun _ _ => rfl)) pa_nil)))
      (pe_lst (pa_cons pe_str pa_nil))) (pe_f (pm41 T) hr (passes_call (takes_of rfl rfl rfl rfl) (fun _ _ _ _ h => h)) (pa_cons (pe_ix ix_tup (pv 0) pe_int (fun _ _ => rfl)) pa_nil))) (pe_lst (pa_cons pe_str pa_nil)))), ?_⟩
    have fs : Fit sh := fit_small (side_small G)
    have z1 : (1 : Nat) ≤ sizeLine := by decide
    refine ⟨z1, fun l0 n0 => ?_⟩
    have s0 : Same H _ := same_upd (o := .lst [.str wOpen]) n0
    refine ⟨_, rfl, p, _, _, _, rfl, rfl, seqT s0 hp, at_of (j := 0) rfl rfl, a, sh, rfl, seqT s0 ha, fun n h => Nat.lt_of_lt_of_le (side_small G n h) pow31, Nat.le_trans G.len (by decide), fun _ H1 p1 s1 n1 h1 => ?_, fun hB => ?_⟩
    · have g0 : H1 l0 = some (.lst [.str wOpen]) := s1 _ _ upd_same
      refine ⟨l0, p1, _, _, rfl, rfl, g0, h1, ?_, fun p2 n2 => ?_⟩
      · rw [List.length_map]
        exact Nat.le_trans (show 1 + sh.length ≤ 5 from by have := G.len; omega) (by decide)
      have s2 : Same H _ := same_updR (o := .lst ([V.str wOpen] ++ sh.map wS)) (s0.trans s1) ((s0.trans s1).free n2)
      refine ⟨z1, fun l3 n3 => ?_⟩
      have n3' : H1 l3 = none := by
        cases e : H1 l3 with
        | none => rfl
        | some o => rw [upd_ne (ne_of_none e n2), e] at n3; cases n3
      have q32 : p2 ≠ l3 := fun z => by rw [z, upd_same] at n3; cases n3
      refine ⟨p2, l3, _, _, rfl, rfl, (by rw [upd_ne q32]; exact upd_same), upd_same, ?_, fun p4 n4 => ?_⟩
      · rw [List.length_append, List.length_map]
        exact Nat.le_trans (show 1 + sh.length + 1 ≤ 6 from by have := G.len; omega) (by decide)
      have s3 : Same H (upd (upd H1 p2 (.lst ([V.str wOpen] ++ sh.map wS))) l3 (.lst [V.str wColon])) := same_updR s2 (s2.free n3)
      have s4 : Same H (upd (upd (upd H1 p2 (.lst ([V.str wOpen] ++ sh.map wS))) l3 (.lst [V.str wColon])) p4 (.lst (([V.str wOpen] ++ sh.map wS) ++ [V.str wColon]))) := same_updR s3 (s3.free n4)
      refine ⟨_, rfl, p, _, _, _, rfl, rfl, seqT s4 hp, at_of (j := 1) rfl rfl, b, its, rfl, seqT s4 hb, hn, Nat.le_trans G.few (by decide), fun hF H5 p5 s5 n5 h5 => ?_, fun hB => ?_⟩
      · have g4 := s5 p4 _ upd_same
        refine ⟨p4, p5, _, _, rfl, rfl, g4, h5, ?_, fun p6 n6 => ?_⟩
        · rw [List.length_append, List.length_append, List.length_map, List.length_map]
          exact Nat.le_trans (show 1 + sh.length + 1 + its.length ≤ 406 from by have := G.len; have := G.few; omega) (by decide)
        have s6 : Same H (upd H5 p6 (.lst ((([V.str wOpen] ++ sh.map wS) ++ [V.str wColon]) ++ its.map wS))) := same_updR (s4.trans s5) ((s4.trans s5).free n6)
        refine ⟨z1, fun l7 n7 => ?_⟩
        have q67 : p6 ≠ l7 := fun z => by rw [z, upd_same] at n7; cases n7
        refine ⟨p6, l7, _, _, rfl, rfl, (by rw [upd_ne q67]; exact upd_same), upd_same, ?_, fun p8 n8 => ?_⟩
        · rw [List.length_append, List.length_append, List.length_append, List.length_map, List.length_map]
          exact Nat.le_trans (show 1 + sh.length + 1 + its.length + 1 ≤ 407 from by have := G.len; have := G.few; omega) (by decide)
        have s7 : Same H (upd (upd H5 p6 (.lst ((([V.str wOpen] ++ sh.map wS) ++ [V.str wColon]) ++ its.map wS))) l7 (.lst [V.str wShut])) := same_updR s6 (s6.free n7)
        refine k hF _ p8 (same_updR s7 (s7.free n8)) (s7.free n8) ?_
        rw [upd_same]
        have ew : (((([V.str wOpen] ++ sh.map wS) ++ [V.str wColon]) ++ its.map wS) ++ [V.str wShut]) = (aWords sh its).map V.str := by
          unfold aWords wS
          simp [List.map_append, List.append_assoc]
          rfl
        exact congrArg (fun q => some (HO.lst q)) ew
      · exact fun H' d s5 n5 h5 => kx hB H' d (s4.trans s5) (s4.free n5) h5
    · obtain ⟨n, hn, hb⟩ := hB
      have := fs n hn
      omega
theorem sc43 : FnScope ["array"] ["array"] (defScope (top 43)) := ⟨rfl, rfl, rfl, by decide +kernel, rfl, by decide +kernel, by decide +kernel⟩
theorem pm43 (T : Txt P w K mg C fI W) : Pm P w K mg base (L2.CX P w) 7 "array_text" (spArrText K C) := T.d43.pm fun f fd F => by
  refine F.okX sc43 (fun vs H Q E h => ?_) (fun cdv A outer s H vs Q E hr h => ?_)
  · obtain ⟨p, sh, its, rfl, _⟩ := h
    rfl
  · obtain ⟨p, sh, its, rfl, ha, G, hn, k, kx⟩ := h
    obtain ⟨tb, mb⟩ := T.cBlank
    refine ⟨_, pss_one (ps_ret (pe_join (pe_glob (v := .str sp) rfl mb ⟨_, rfl⟩) (pe_f (pm42 T) (hr.mono (by decide)) (passes_call (takes_of rfl rfl rfl rfl) (fun _ _ _ _ h => h)) (pa_cons (pe_f (pm20 T) hr pass0 (pa_cons (pv 0) pa_nil)) pa_nil)))), ?_⟩
    refine ⟨⟨_, rfl⟩, _, rfl, p, sh, its, rfl, ha, G, fun H1 s1 => ?_⟩
    refine ⟨p, sh, its, rfl, ha.same s1, G, hn, fun hF H2 l s2 n2 h2 => ?_, fun hB H' d s5 n5 h5 => kx hB H' d (s1.trans s5) (s1.free n5) h5⟩
    refine ⟨sp, l, aWords sh its, rfl, rfl, .inl (SqL.of h2), aJoin_small G hF, ?_⟩
    rw [join_eq]
    exact k hF H2 (s1.trans s2)
end
end K67
/-! customs_text, and what reads texts back. -/
namespace K67
open PySem PySem.Spec PyProof.Rows L2 TL
def spCusText (K : PySem.W.Frag) : Sp := fun vs H Q _ => ∃ (p : Addr) (cs : List (Str × Bool)), vs = [.ref p] ∧ Cus K H p cs ∧ GoodC cs ∧ ∀ H', Same H H' → Q (.str (cText cs)) H'
def spTaken (K : PySem.W.Frag) (W : Addr) : Sp := fun vs H Q _ => ∃ (r : Addr) (sh its : List Int), vs = [.ref r] ∧ RowAt W H r (aWords sh its) 0 0 ∧ GoodA sh its ∧ (∀ n ∈ its, n.natAbs < 10 ^ 31) ∧
  ∀ H' p, But r H H' → RowAt W H' r (aWords sh its) (aWords sh its).length 0 → Arr K H' p sh its → p ≠ r → Q (.ref p) H'
def spCTaken (K : PySem.W.Frag) (W : Addr) : Sp := fun vs H Q _ => ∃ (r : Addr) (cs : List (Str × Bool)), vs = [.ref r] ∧ RowAt W H r (cWords cs) 0 0 ∧ GoodC cs ∧
  ∀ H' p, But r H H' → RowAt W H' r (cWords cs) (cWords cs).length 6 → Cus K H' p cs → p ≠ r → Q (.ref p) H'
def spReadA (K : PySem.W.Frag) : Sp := fun vs H Q _ => ∃ (sh its : List Int), vs = [.str (aText sh its)] ∧ GoodA sh its ∧ (∀ n ∈ its, n.natAbs < 10 ^ 31) ∧ ∀ H' p, Same H H' → Arr K H' p sh its → Q (.ref p) H'
def spReadC (K : PySem.W.Frag) : Sp := fun vs H Q _ => ∃ (cs : List (Str × Bool)), vs = [.str (cText cs)] ∧ GoodC cs ∧ ∀ H' p, Same H H' → Cus K H' p cs → Q (.ref p) H'
theorem cWords_take : ∀ (cs : List (Str × Bool)) (i : Nat) (c : Str) (b : Bool), cs[i]? = some (c, b) → cWords (cs.take (i + 1)) = cWords (cs.take i) ++ [c, uW b]
  | [], i, c, b, h => by simp at h
  | (c', b') :: r, 0, c, b, h => by
    have e := Option.some.inj h
    cases e
    rfl
  | (c', b') :: r, i + 1, c, b, h => by
    show c' :: uW b' :: cWords (r.take (i + 1)) = c' :: uW b' :: (cWords (r.take i) ++ [c, uW b])
    rw [cWords_take r i c b h]
theorem cWords_get : ∀ (cs : List (Str × Bool)) (i : Nat) (c : Str) (b : Bool), cs[i]? = some (c, b) → (cWords cs)[2 * i]? = some c ∧ (cWords cs)[2 * i + 1]? = some (uW b)
  | [], i, c, b, h => by simp at h
  | (c', b') :: r, 0, c, b, h => by
    have e := Option.some.inj h
    cases e
    exact ⟨rfl, rfl⟩
  | (c', b') :: r, i + 1, c, b, h => by
    have ih := cWords_get r i c b h
    exact ⟨ih.1, ih.2⟩
theorem cWords_small {cs : List (Str × Bool)} (G : ∀ p ∈ cs, p.1 ∈ chain) : ∀ w ∈ cWords cs, w.length ≤ 5 := by
  induction cs with
  | nil => intro w hw; exact absurd hw List.not_mem_nil
  | cons a r ih =>
    obtain ⟨c, b⟩ := a
    intro w hw
    rcases List.mem_cons.mp hw with rfl | hw
    · have h := G _ (List.mem_cons_self ..)
      simp only [chain, List.mem_cons, List.not_mem_nil, or_false] at h
      rcases h with h | h | h | h <;> (rw [show w = _ from h]; decide +kernel)
    · rcases List.mem_cons.mp hw with rfl | hw
      · cases b <;> decide +kernel
      · exact ih (fun p hp => G p (List.mem_cons_of_mem _ hp)) w hw
theorem cJoin_small {cs : List (Str × Bool)} (G : GoodC cs) : ((cWords cs).map (·.length)).sum + (cWords cs).length * sp.length ≤ 16777216 := by
  have h1 := lens_le (cWords_small G.2)
  have h2 := cWords_len cs
  have h3 : sp.length = 1 := by decide +kernel
  have h4 := G.1
  rw [h3]
  omega
theorem cText_len {cs : List (Str × Bool)} (G : GoodC cs) : (cText cs).length ≤ 36 := by
  have h := join_len_le (cWords cs) 5 (cWords_small G.2)
  have h2 := cWords_len cs
  have h4 := G.1
  unfold cText
  omega
theorem aText_len {sh its : List Int} (G : GoodA sh its) (h : Fit its) : (aText sh its).length ≤ 20000 := by
  have h1 := join_len_le (aWords sh its) 33 (aWords_small G h)
  have h2 := aWords_len sh its
  have h4 := G.len
  have h5 := G.few
  unfold aText
  omega
theorem aWords_ne (sh its : List Int) : aWords sh its ≠ [] := by unfold aWords; simp
theorem cWords_ne {cs : List (Str × Bool)} (G : GoodC cs) : cWords cs ≠ [] := fun e => by
  have := cWords_len cs
  rw [e, G.1] at this
  simp at this
theorem aw0 (sh its : List Int) : (aWords sh its)[0]? = some wOpen := rfl
theorem awSh {sh its : List Int} {i : Nat} {z : Int} (h : sh[i]? = some z) : (aWords sh its)[1 + i]? = some (wI z) := by
  have hlt := (List.getElem?_eq_some_iff.mp h).1
  rw [Nat.add_comm]
  show (sh.map wI ++ _)[i]? = _
  rw [List.getElem?_append_left (by rw [List.length_map]; exact hlt), List.getElem?_map, h]
  rfl
theorem awColon (sh its : List Int) : (aWords sh its)[1 + sh.length]? = some wColon := by
  rw [Nat.add_comm]
  show (sh.map wI ++ _)[sh.length]? = _
  rw [List.getElem?_append_right (by rw [List.length_map]; exact Nat.le_refl _), List.length_map, Nat.sub_self]
  rfl
theorem awIt {sh its : List Int} {i : Nat} {z : Int} (h : its[i]? = some z) : (aWords sh its)[1 + sh.length + 1 + i]? = some (wI z) := by
  have hlt := (List.getElem?_eq_some_iff.mp h).1
  have e : 1 + sh.length + 1 + i = (sh.length + 1 + i) + 1 := by omega
  rw [e]
  show (sh.map wI ++ _)[sh.length + 1 + i]? = _
  rw [List.getElem?_append_right (by rw [List.length_map]; omega), List.length_map]
  have e2 : sh.length + 1 + i - sh.length = i + 1 := by omega
  rw [e2]
  show (its.map wI ++ _)[i]? = _
  rw [List.getElem?_append_left (by rw [List.length_map]; exact hlt), List.getElem?_map, h]
  rfl
theorem awShut (sh its : List Int) : (aWords sh its)[1 + sh.length + 1 + its.length]? = some wShut := by
  have e : 1 + sh.length + 1 + its.length = (sh.length + 1 + its.length) + 1 := by omega
  rw [e]
  show (sh.map wI ++ _)[sh.length + 1 + its.length]? = _
  rw [List.getElem?_append_right (by rw [List.length_map]; omega), List.length_map]
  have e2 : sh.length + 1 + its.length - sh.length = its.length + 1 := by omega
  rw [e2]
  show (its.map wI ++ _)[its.length]? = _
  rw [List.getElem?_append_right (by rw [List.length_map]; exact Nat.le_refl _), List.length_map, Nat.sub_self]
  rfl
theorem awEnd (sh its : List Int) : (aWords sh its)[(aWords sh its).length]? = none := List.getElem?_eq_none_iff.mpr (Nat.le_refl _)
theorem wI_ne_colon (z : Int) : wI z ≠ wColon := fun e => by
  have h : (58 : Nat) ∈ tl wColon := by decide +kernel
  rw [← e] at h
  exact wI_free (by omega) h
theorem wI_ne_shut (z : Int) : wI z ≠ wShut := fun e => by
  have h : (93 : Nat) ∈ tl wShut := by decide +kernel
  rw [← e] at h
  exact wI_free (by omega) h
theorem RowAt.upd_ints {W : Addr} {H : Hp} {r q : Addr} {ws : List Str} {i : Nat} {t : Int} {ns : List Int} {o : HO} (R : RowAt W H r ws i t) (hne : ws ≠ []) (hq : H q = some (.lst (ns.map V.int))) : RowAt W (upd H q o) r ws i t := by
  obtain ⟨dx, l, line, h1, h2, h3⟩ := R
  refine ⟨dx, l, line, by rw [upd_ne (ne_of h1 hq (by intro z; cases z))]; exact h1, ?_, h3⟩
  have hl : l ≠ q := fun z => by
    rw [z, hq] at h2
    have e := Option.some.inj h2
    have e2 := HO.lst.inj e
    cases ws with
    | nil => exact hne rfl
    | cons a b =>
      cases ns with
      | nil => cases e2
      | cons n m => exact absurd (List.cons.inj e2).1 (by intro z; cases z)
  rw [upd_ne hl]
  exact h2
theorem RowAt.upd_new {W : Addr} {H : Hp} {r q : Addr} {ws : List Str} {i : Nat} {t : Int} {o : HO} (R : RowAt W H r ws i t) (hq : H q = none) : RowAt W (upd H q o) r ws i t := R.same (same_upd hq)
theorem row_ne {W : Addr} {H : Hp} {r q : Addr} {ws : List Str} {i : Nat} {t : Int} {xs : List V} (R : RowAt W H r ws i t) (hq : H q = some (.lst xs)) : r ≠ q := by
  obtain ⟨dx, l, line, h1, h2, h3⟩ := R
  exact ne_of h1 hq (by intro z; cases z)
theorem take_snoc {α : Type} {l : List α} {i : Nat} {z : α} (h : l[i]? = some z) : l.take (i + 1) = l.take i ++ [z] := by rw [List.take_add_one, h]; rfl
/-- the first loop's state: i sides taken -/
structure St1 (W r l1 l2 : Addr) (sh its : List Int) (H : Hp) (i : Nat) (σ : L2.St) (H2 : Hp) : Prop where
  sl : σ = [some (.ref r), some (.ref l1), some (.ref l2)]
  row : RowAt W H2 r (aWords sh its) (1 + i) 0
  a1 : H2 l1 = some (.lst ((sh.take i).map V.int))
  a2 : H2 l2 = some (.lst (([] : List Int).map V.int))
  but : But r H H2
  le : i ≤ sh.length
  ne : l1 ≠ l2
  f1 : H l1 = none
  f2 : H l2 = none
structure St2 (W r l1 l2 : Addr) (sh its : List Int) (H : Hp) (i : Nat) (σ : L2.St) (H2 : Hp) : Prop where
  sl : σ = [some (.ref r), some (.ref l1), some (.ref l2)]
  row : RowAt W H2 r (aWords sh its) (1 + sh.length + 1 + i) 0
  a1 : H2 l1 = some (.lst (sh.map V.int))
  a2 : H2 l2 = some (.lst ((its.take i).map V.int))
  but : But r H H2
  le : i ≤ its.length
  ne : l1 ≠ l2
  f1 : H l1 = none
  f2 : H l2 = none
section
variable {P : Program} {w : World} {K : PySem.W.Frag} {mg : Str → Option Value} {base : Heap} {C fI W : Addr}
theorem sc44 : FnScope ["customs", "found", "custom", "has_unit"] ["customs"] (defScope (top 44)) := ⟨rfl, rfl, rfl, by decide +kernel, rfl, by decide +kernel, by decide +kernel⟩
theorem pm44 (T : Txt P w K mg C fI W) : Pm P w K mg base CX0 4 "customs_text" (spCusText K) := T.d44.pm fun f fd F => by
  refine F.ok sc44 (fun vs H Q E h => ?_) (fun cdv A outer s H vs Q E hr h => ?_)
  · obtain ⟨p, cs, rfl, _⟩ := h
    rfl
  · obtain ⟨p, cs, rfl, hc, G, k⟩ := h
    obtain ⟨tb, mb⟩ := T.cBlank
    obtain ⟨tu, mu, hu⟩ := T.cUni
    refine ⟨_, pss_cons (ps_set (i := 1) sc44.nd rfl (Or.inl rfl) (pe_lst pa_nil))
      (pss_cons (ps_for PassesOwn.never rfl (pi_tup (pe_f (pm24 T) hr pass0 (pa_cons (pv 0) pa_nil))) (pg_tup rfl (pgs_cons (pg_name (i := 2) sc44.nd rfl (Or.inl rfl)) (pgs_cons (pg_name (i := 3) sc44.nd rfl (Or.inl rfl)) pgs_nil)))
        (pss_one (ps_expr (pe_bm PySem.F.plainAttrs_list PySem.F.slot_list_extend PySem.F.type_list_extend mt_extend (pv 1) (pa_cons (pe_lst (pa_cons (pv 2) (pa_cons (pe_ix ix_tup (pe_glob (v := .ref tu) rfl mu rfl) (pe_callTy call_int1 (by rfl) T.nInt (by decide +kernel) (pa_cons (pv 3) pa_nil)) (fun _ _ => rfl)) pa_nil))) pa_nil)))))
      (pss_one (ps_ret (pe_join (pe_glob (v := .str sp) rfl mb ⟨_, rfl⟩) (pv 1))))), ?_⟩
    refine ⟨by show 0 ≤ sizeLine; decide, fun l nl' => ?_⟩
    refine ⟨_, rfl, p, cs, rfl, hc.same (same_upd nl'), G, fun H1 s1 => ?_⟩
    obtain ⟨as, hp, hl, hat⟩ := hc
    have SH : Same H H1 := (same_upd nl').trans s1
    refine ⟨p, rfl, ⟨_, seqT SH hp⟩, for_tup (K := K) (a := p) (xs := as.map V.ref) (fun i σ H2 => (∃ v v2, σ = [some (.ref p), some (.ref l), v, v2]) ∧ Same H H2 ∧ H2 l = some (.lst ((cWords (cs.take i)).map V.str)))
      ⟨⟨none, none, rfl⟩, SH, s1 _ _ upd_same⟩ (fun i σ H2 _ ⟨_, s2, h2⟩ => seqT s2 hp) ?_ ?_⟩
    · rintro i y σ H2 hi ⟨⟨v, v2, rfl⟩, s2, h2⟩
      obtain ⟨a, ha, rfl⟩ := map_get hi
      have hi2 : i < cs.length := by rw [← hl]; exact (List.getElem?_eq_some_iff.mp ha).1
      obtain ⟨⟨c, b⟩, hcb⟩ : ∃ cb, cs[i]? = some cb := ⟨_, List.getElem?_eq_getElem hi2⟩
      refine ⟨a, _, rfl, seqT s2 (hat i a _ ha hcb), rfl, _, _, rfl, _, _, rfl, rfl, ?_⟩
      refine ⟨_, rfl, .inl ⟨rfl, _, SqL.of h2⟩, _, rfl, _, rfl, .inr ⟨b, rfl, ?_⟩⟩
      have hx : atI ([uW false, uW true].map V.str) (if b = true then 1 else 0) = some (.str (uW b)) := by cases b <;> rfl
      refine ⟨tu, _, _, _, rfl, rfl, hu _, hx, by show 2 ≤ sizeLine; decide, fun q nq => ?_⟩
      have nlq : l ≠ q := ne_of_none h2 nq
      have h2' : (upd H2 q (.lst [.str c, .str (uW b)])) l = some (.lst ((cWords (cs.take i)).map V.str)) := by rw [upd_ne nlq]; exact h2
      refine ⟨l, q, _, _, rfl, rfl, h2', upd_same, ?_, ?_⟩
      · rw [List.length_map, cWords_len, List.length_take]
        exact Nat.le_trans (show 2 * min i cs.length + 2 ≤ 8 from by have := G.1; omega) (by decide)
      · refine ⟨⟨_, _, rfl⟩, fun b' o e => ?_, ?_⟩
        · rw [upd_ne (ne_of_none e nl'), upd_ne (ne_of_none (s2 _ _ e) nq)]
          exact s2 _ _ e
        · rw [upd_same, cWords_take _ _ _ _ hcb, List.map_append]
          rfl
    · rintro σ H2 ⟨⟨v, v2, rfl⟩, s2, h2⟩
      rw [List.take_of_length_le (by rw [List.length_map, hl]; exact Nat.le_refl _)] at h2
      refine ⟨⟨_, rfl⟩, _, rfl, sp, l, cWords cs, rfl, rfl, .inl (SqL.of h2), cJoin_small G, ?_⟩
      rw [join_eq]
      exact k _ s2
theorem sc45 : FnScope ["row", "lengths", "items"] ["row"] (defScope (top 45)) := ⟨rfl, rfl, rfl, by decide +kernel, rfl, by decide +kernel, by decide +kernel⟩
theorem pm45 (T : Txt P w K mg C fI W) : Pm P w K mg base CX0 4 "array_taken" (spTaken K W) := T.d45.pm fun f fd F => by
  refine F.ok sc45 (fun vs H Q E h => ?_) (fun cdv A outer s H vs Q E hr h => ?_)
  · obtain ⟨r, sh, its, rfl, _⟩ := h
    rfl
  · obtain ⟨r, sh, its, rfl, R, G, hn, k⟩ := h
    obtain ⟨tl', ml, kd⟩ := T.cLis
    refine ⟨_, pss_cons (ps_expr (pe_mt (pv 0) T.row (pmM T) hr pass0 (pa_cons pe_str pa_nil)))
      (pss_cons (ps_par (i := 1) (j := 2) rfl sc45.nd rfl rfl (by decide) rfl rfl (pa_cons (pe_lst pa_nil) (pa_cons (pe_lst pa_nil) pa_nil)) (by rfl))
      (pss_cons (ps_while PassesOwn.never (PW.pt (pw_and (pt_cmpR op_ne (pe_mt0 (pv 0) T.row (pmA T) (hr.mono (by decide)) pass0) pe_str (nomark _))
          (pw_and1 (pt_cmpR op_lt (pe_callB call_len (by rfl) T.nLen PySem.boot_len (pa_cons (pv 1) pa_nil)) (pe_ix ix_kdict (pe_glob (v := .ref tl') rfl ml rfl) pe_str (fun _ _ => rfl)) (nomark _)))))
        (pss_one (ps_expr (pe_bm PySem.F.plainAttrs_list PySem.F.slot_list_append PySem.F.type_list_append mt_append (pv 1) (pa_cons (pe_mt0 (pv 0) T.row (pmN T) hr pass0) pa_nil)))))
      (pss_cons (ps_expr (pe_mt (pv 0) T.row (pmM T) hr pass0 (pa_cons pe_str pa_nil)))
      (pss_cons (ps_while PassesOwn.never (pt_cmpR op_ne (pe_mt0 (pv 0) T.row (pmA T) (hr.mono (by decide)) pass0) pe_str (nomark _))
        (pss_one (ps_expr (pe_bm PySem.F.plainAttrs_list PySem.F.slot_list_append PySem.F.type_list_append mt_append (pv 2) (pa_cons (pe_mt0 (pv 0) T.row (pmN T) hr pass0) pa_nil)))))
      (pss_cons (ps_expr (pe_mt (pv 0) T.row (pmM T) hr pass0 (pa_cons pe_str pa_nil)))
      (pss_one (ps_ret (pe_tup (pa_cons (pe_callTy call_tuple_of (by rfl) T.nTup (by decide +kernel) (pa_cons (pv 1) pa_nil)) (pa_cons (pe_callTy call_tuple_of (by rfl) T.nTup (by decide +kernel) (pa_cons (pv 2) pa_nil)) pa_nil)))))))))), ?_⟩
    obtain ⟨dx, l, line, h1, _, _⟩ := id R
    have wne := aWords_ne sh its
    refine ⟨_, rfl, r, dx, _, rfl, h1, noMark, r, _, 0, 0, wOpen, rfl, R, aw0 _ _, fun H1 R1 b1 => ?_⟩
    refine ⟨by show 0 ≤ sizeLine; decide, fun l1 n1 => ⟨by show 0 ≤ sizeLine; decide, fun l2 n2 => ⟨_, _, rfl, ?_⟩⟩⟩
    have n12 : l1 ≠ l2 := fun z => by rw [z, upd_same] at n2; cases n2
    have n2' : H1 l2 = none := by rw [upd_ne n12.symm] at n2; exact n2
    have f1 : H l1 = none := b1.free n1 (R1.ne n1).symm
    have f2 : H l2 = none := b1.free n2' (R1.ne n2').symm
    refine ⟨fun m σ H2 => ∃ i, m = sh.length - i ∧ St1 W r l1 l2 sh its H i σ H2, ⟨_, 0, rfl, rfl, (R1.upd_new n1).upd_new n2, ?_, upd_same, (b1.new f1).new f2, Nat.zero_le _, n12, f1, f2⟩, ?_⟩
    · rw [upd_ne n12]; exact upd_same
    rintro m σ H2 ⟨i, rfl, S⟩
    obtain ⟨rfl, R2, a1, a2, b2, le, ne, _, _⟩ := S
    obtain ⟨dx2, lw2, line2, g2, _, _⟩ := id R2
    refine ⟨_, rfl, r, dx2, _, rfl, g2, noAhead, r, _, 1 + i, 0, rfl, R2, ?_⟩
    by_cases hi : i < sh.length
    · obtain ⟨z, hz⟩ : ∃ z, sh[i]? = some z := ⟨_, List.getElem?_eq_getElem hi⟩
      rw [ahead_some (awSh hz)]
      have e1 : (!decide (V.str (wI z) = V.str wColon)) = true := by simp [wI_ne_colon]
      refine ⟨rfl, _, rfl, if_true_of e1 ?_⟩
      refine ⟨_, rfl, _, _, rfl, .inl ⟨_, SqL.of a1, rfl⟩, tl', _, _, rfl, rfl, kd, _, _, rfl, rfl, _, rfl, ?_⟩
      have e2 : decide ((((sh.take i).map V.int).length : Int) < 4) = true := decide_eq_true (by
        rw [List.length_map, List.length_take]
        have := G.len
        omega)
      refine if_true_of e2 ?_
      refine ⟨fun σ' H' => St1 W r l1 l2 sh its H (i + 1) σ' H', fun σ' H' p => ⟨sh.length - (i + 1), by omega, i + 1, rfl, p⟩, ?_⟩
      refine ⟨_, rfl, .inl ⟨rfl, _, SqL.of a1⟩, _, rfl, r, dx2, _, rfl, g2, noInte, r, _, 1 + i, 0, z, rfl, R2, awSh hz, side_small G z (List.mem_of_getElem? hz), fun H3 R3 b3 => ?_⟩
      have c1 := b3 _ _ a1 (row_ne R2 a1).symm
      have c2 := b3 _ _ a2 (row_ne R2 a2).symm
      refine ⟨l1, _, _, rfl, rfl, c1, ?_, rfl, R3.upd_ints wne c1, ?_, ?_, (b2.trans b3).new f1, hi, ne, f1, f2⟩
      · rw [List.length_map, List.length_take]
        exact Nat.lt_of_le_of_lt (show min i sh.length ≤ 4 from by have := G.len; omega) (by decide)
      · rw [upd_same, take_snoc hz, List.map_append]
        rfl
      · rw [upd_ne ne.symm]
        exact c2
    · have hi' : i = sh.length := by omega
      subst hi'
      rw [ahead_some (awColon sh its)]
      refine ⟨rfl, _, rfl, iteNS rfl ?_⟩
      rw [List.take_of_length_le (Nat.le_refl _)] at a1
      refine ⟨_, rfl, r, dx2, _, rfl, g2, noMark, r, _, _, 0, wColon, rfl, R2, awColon sh its, fun H3 R3 b3 => ?_⟩
      have c1 := b3 _ _ a1 (row_ne R2 a1).symm
      have c2 := b3 _ _ a2 (row_ne R2 a2).symm
      refine ⟨fun m σ H2 => ∃ i, m = its.length - i ∧ St2 W r l1 l2 sh its H i σ H2, ⟨_, 0, rfl, rfl, R3, c1, c2, b2.trans b3, Nat.zero_le _, n12, f1, f2⟩, ?_⟩
      rintro m σ H4 ⟨j, rfl, S⟩
      obtain ⟨rfl, R4, a1, a2, b4, le, ne, _, _⟩ := S
      obtain ⟨dx4, lw4, line4, g4, _, _⟩ := id R4
      refine ⟨_, rfl, r, dx4, _, rfl, g4, noAhead, r, _, _, 0, rfl, R4, ?_⟩
      by_cases hj : j < its.length
      · obtain ⟨z, hz⟩ : ∃ z, its[j]? = some z := ⟨_, List.getElem?_eq_getElem hj⟩
        rw [ahead_some (awIt hz)]
        have e1 : (!decide (V.str (wI z) = V.str wShut)) = true := by simp [wI_ne_shut]
        refine ⟨rfl, _, rfl, if_true_of e1 ?_⟩
        refine ⟨fun σ' H' => St2 W r l1 l2 sh its H (j + 1) σ' H', fun σ' H' p => ⟨its.length - (j + 1), by omega, j + 1, rfl, p⟩, ?_⟩
        refine ⟨_, rfl, .inl ⟨rfl, _, SqL.of a2⟩, _, rfl, r, dx4, _, rfl, g4, noInte, r, _, _, 0, z, rfl, R4, awIt hz, hn z (List.mem_of_getElem? hz), fun H5 R5 b5 => ?_⟩
        have c1 := b5 _ _ a1 (row_ne R4 a1).symm
        have c2 := b5 _ _ a2 (row_ne R4 a2).symm
        refine ⟨l2, _, _, rfl, rfl, c2, ?_, rfl, R5.upd_ints wne c2, ?_, ?_, (b4.trans b5).new f2, hj, ne, f1, f2⟩
        · rw [List.length_map, List.length_take]
          exact Nat.lt_of_le_of_lt (show min j its.length ≤ 400 from by have := G.few; omega) (by decide)
        · rw [upd_ne ne]
          exact c1
        · rw [upd_same, take_snoc hz, List.map_append]
          rfl
      · have hj' : j = its.length := by omega
        subst hj'
        rw [ahead_some (awShut sh its)]
        refine ⟨rfl, _, rfl, iteNS rfl ?_⟩
        rw [List.take_of_length_le (Nat.le_refl _)] at a2
        refine ⟨_, rfl, r, dx4, _, rfl, g4, noMark, r, _, _, 0, wShut, rfl, R4, awShut sh its, fun H5 R5 b5 => ?_⟩
        have c1 := b5 _ _ a1 (row_ne R4 a1).symm
        have c2 := b5 _ _ a2 (row_ne R4 a2).symm
        have B5 : But r H H5 := b4.trans b5
        refine ⟨_, rfl, l1, _, rfl, .inl ⟨SqL.of c1, fun t1 nt1 => ?_⟩⟩
        have q2 : l2 ≠ t1 := ne_of_none c2 nt1
        refine ⟨_, rfl, l2, _, rfl, .inl ⟨SqL.of (xs := its.map V.int) (by rw [upd_ne q2]; exact c2), fun t2 nt2 => ?_⟩⟩
        refine ⟨by show 2 ≤ sizeLine; decide, fun p np => ?_⟩
        have g1 : H t1 = none := B5.free nt1 (R5.ne nt1).symm
        have R6 := R5.upd_new (o := .tup (sh.map V.int)) nt1
        have B6 := B5.new (o := .tup (sh.map V.int)) g1
        have g2 : H t2 = none := B6.free nt2 (R6.ne nt2).symm
        have R7 := R6.upd_new (o := .tup (its.map V.int)) nt2
        have B7 := B6.new (o := .tup (its.map V.int)) g2
        have g3 : H p = none := B7.free np (R7.ne np).symm
        have q3 : t1 ≠ t2 := fun z => by rw [← z, upd_same] at nt2; cases nt2
        have q4 : t1 ≠ p := fun z => by rw [← z, upd_ne q3, upd_same] at np; cases np
        have q5 : t2 ≠ p := fun z => by rw [← z, upd_same] at np; cases np
        refine k _ p (B7.new g3) ?_ ⟨t1, t2, SqT.of upd_same, SqT.of (by rw [upd_ne q4, upd_ne q3, upd_same]), SqT.of (by rw [upd_ne q5, upd_same])⟩ (R7.ne np).symm
        have ee : (aWords sh its).length = 1 + sh.length + 1 + its.length + 1 := by rw [aWords_len]; omega
        rw [ee]
        exact R7.upd_new np
end
end K67
/-! customs read back; whole texts read back. -/
namespace K67
open PySem PySem.Spec PyProof.Rows L2 TL
theorem RowAt.upd_refs {W : Addr} {H : Hp} {r q : Addr} {ws : List Str} {i : Nat} {t : Int} {ns : List Addr} {o : HO} (R : RowAt W H r ws i t) (hne : ws ≠ []) (hq : H q = some (.lst (ns.map V.ref))) : RowAt W (upd H q o) r ws i t := by
  obtain ⟨dx, l, line, h1, h2, h3⟩ := R
  refine ⟨dx, l, line, by rw [upd_ne (ne_of h1 hq (by intro z; cases z))]; exact h1, ?_, h3⟩
  have hl : l ≠ q := fun z => by
    rw [z, hq] at h2
    have e := Option.some.inj h2
    have e2 := HO.lst.inj e
    cases ws with
    | nil => exact hne rfl
    | cons a b =>
      cases ns with
      | nil => cases e2
      | cons n m => exact absurd (List.cons.inj e2).1 (by intro z; cases z)
  rw [upd_ne hl]
  exact h2
theorem uW_eq (b : Bool) : decide (V.str (uW b) = V.str (uW true)) = b := by
  cases b with
  | true => exact decide_eq_true rfl
  | false =>
    refine decide_eq_false fun e => ?_
    have e2 := V.str.inj e
    exact absurd e2 (by decide +kernel)
theorem uW_mem (b : Bool) : uW b ∈ [uW false, uW true] := by cases b <;> simp
/-- the pairs made so far -/
def Made (H : Hp) (as : List Addr) (cs : List (Str × Bool)) : Prop := ∀ (j : Nat) a c, as[j]? = some a → cs[j]? = some c → H a = some (.tup [.str c.1, .bl c.2])
theorem Made.but {r : Addr} {H H' : Hp} {as : List Addr} {cs : List (Str × Bool)} (m : Made H as cs) (b : But r H H') (hr : ∀ xs, H r ≠ some (.tup xs)) : Made H' as cs := fun j a c ha hc =>
  b a _ (m j a c ha hc) fun z => hr _ (by rw [← z]; exact m j a c ha hc)
theorem row_tup {W : Addr} {H : Hp} {r : Addr} {ws : List Str} {i : Nat} {t : Int} (R : RowAt W H r ws i t) : ∀ xs, H r ≠ some (.tup xs) := fun xs e => by
  obtain ⟨dx, l, line, h1, h2, h3⟩ := R
  rw [h1] at e
  cases e
structure St3 (W r l1 : Addr) (cs : List (Str × Bool)) (H : Hp) (i : Nat) (σ : L2.St) (H2 : Hp) : Prop where
  sl : ∃ v2 v3, σ = [some (.ref r), some (.ref l1), v2, v3]
  row : RowAt W H2 r (cWords cs) (2 * i) (2 * i : Nat)
  a1 : ∃ as : List Addr, H2 l1 = some (.lst (as.map V.ref)) ∧ as.length = i ∧ Made H2 as cs
  but : But r H H2
  f1 : H l1 = none
section
variable {P : Program} {w : World} {K : PySem.W.Frag} {mg : Str → Option Value} {base : Heap} {C fI W : Addr}
theorem sc46 : FnScope ["row", "found", "number", "custom"] ["row"] (defScope (top 46)) := ⟨rfl, rfl, rfl, by decide +kernel, rfl, by decide +kernel, by decide +kernel⟩
theorem pm46 (T : Txt P w K mg C fI W) : Pm P w K mg base CX0 4 "customs_taken" (spCTaken K W) := T.d46.pm fun f fd F => by
  refine F.ok sc46 (fun vs H Q E h => ?_) (fun cdv A outer s H vs Q E hr h => ?_)
  · obtain ⟨r, cs, rfl, _⟩ := h
    rfl
  · obtain ⟨r, cs, rfl, R, G, k⟩ := h
    obtain ⟨tt, mt, hT⟩ := T.cTex
    obtain ⟨tu, mu, hU⟩ := T.cUni
    refine ⟨_, pss_cons (ps_set (i := 1) sc46.nd rfl (Or.inl rfl) (pe_lst pa_nil))
      (pss_cons (ps_for PassesOwn.never rfl (pi_range1 rfl T.nRange (pa_cons pe_int pa_nil)) (pg_name (i := 2) sc46.nd rfl (Or.inl rfl))
        (pss_cons (ps_set (i := 3) sc46.nd rfl (Or.inl rfl) (pe_mt (pv 0) T.row (pmT T) hr pass0 (pa_cons (pe_glob (v := .ref tt) rfl mt rfl) pa_nil)))
        (pss_one (ps_expr (pe_bm PySem.F.plainAttrs_list PySem.F.slot_list_append PySem.F.type_list_append mt_append (pv 1)
          (pa_cons (pe_tup (pa_cons (pv 3) (pa_cons (pe_cmpR op_eq (pe_mt (pv 0) T.row (pmT T) hr pass0 (pa_cons (pe_glob (v := .ref tu) rfl mu rfl) pa_nil)) (pe_ix ix_tup (pe_glob (v := .ref tu) rfl mu rfl) pe_int (fun _ _ => rfl)) (nomark _)) pa_nil))) pa_nil))))))
      (pss_one (ps_ret (pe_callTy call_tuple_of (by rfl) T.nTup (by decide +kernel) (pa_cons (pv 1) pa_nil))))), ?_⟩
    have wne := cWords_ne G
    refine ⟨by show 0 ≤ sizeLine; decide, fun l nl' => ?_⟩
    refine ⟨3, rfl, by decide, by decide, for_range (n := 3) (fun i σ H2 => St3 W r l cs H i σ H2) ⟨⟨none, none, rfl⟩, R.upd_new nl', ⟨[], upd_same, rfl, fun j a c ha _ => by simp at ha⟩, (But.refl r H).new nl', nl'⟩ ?_ ?_⟩
    · rintro i σ H2 hi S
      obtain ⟨⟨v2, v3, rfl⟩, R2, ⟨as, a1, hlen, M⟩, b2, f1⟩ := S
      obtain ⟨dx2, lw2, line2, g2, _, _⟩ := id R2
      have hi2 : i < cs.length := by rw [G.1]; exact hi
      obtain ⟨⟨c, b⟩, hcb⟩ : ∃ cb, cs[i]? = some cb := ⟨_, List.getElem?_eq_getElem hi2⟩
      obtain ⟨w1, w2⟩ := cWords_get cs i c b hcb
      refine ⟨_, rfl, r, dx2, _, rfl, g2, noTold, r, tt, _, chain, 2 * i, _, c, rfl, R2, hT _, w1, G.2 _ (List.mem_of_getElem? hcb), by omega, fun H3 R3 b3 => ?_⟩
      have c1 := b3 _ _ a1 (row_ne R2 a1).symm
      have M3 := M.but b3 (row_tup R2)
      obtain ⟨dx3, lw3, line3, g3, _, _⟩ := id R3
      refine ⟨_, rfl, .inl ⟨rfl, _, SqL.of c1⟩, _, rfl, _, rfl, r, dx3, _, rfl, g3, noTold, r, tu, _, [uW false, uW true], 2 * i + 1, _, uW b, rfl, R3, hU _, w2, uW_mem b, by omega, fun H4 R4 b4 => ?_⟩
      have d1 := b4 _ _ c1 (row_ne R3 c1).symm
      have M4 := M3.but b4 (row_tup R3)
      refine ⟨tu, _, _, _, rfl, rfl, hU _, at_of (j := 1) rfl rfl, rfl, by show 2 ≤ sizeLine; decide, fun p np => ?_⟩
      have qlp : l ≠ p := ne_of_none d1 np
      rw [uW_eq]
      refine ⟨l, _, _, rfl, rfl, (by rw [upd_ne qlp]; exact d1), ?_, ⟨_, _, rfl⟩, ?_, ⟨as ++ [p], ?_, ?_, ?_⟩, ?_, f1⟩
      · rw [List.length_map, hlen]
        exact Nat.lt_trans hi (by decide)
      · have R5 := R4.upd_new (o := .tup [.str c, .bl b]) np
        have e1 : (upd H4 p (.tup [.str c, .bl b])) l = some (.lst (as.map V.ref)) := by rw [upd_ne qlp]; exact d1
        have R6 := R5.upd_refs (o := .lst (as.map V.ref ++ [V.ref p])) wne e1
        have e2 : 2 * (i + 1) = 2 * i + 1 + 1 := by omega
        have e3 : ((2 * (i + 1) : Nat) : Int) = ((2 * i : Nat) : Int) + 1 + 1 := by omega
        rw [e3, e2]
        exact R6
      · rw [upd_same, List.map_append]
        rfl
      · rw [List.length_append, hlen]
        rfl
      · intro j a x ha hx
        by_cases hj : j < as.length
        · rw [List.getElem?_append_left hj] at ha
          have z := M4 j a x ha hx
          rw [upd_ne (ne_of z d1 (by intro z; cases z)), upd_ne (ne_of_none z np)]
          exact z
        · have hj2 : j = as.length := by
            have := (List.getElem?_eq_some_iff.mp ha).1
            rw [List.length_append] at this
            simp at this
            omega
          subst hj2
          rw [List.getElem?_append_right (Nat.le_refl _), Nat.sub_self] at ha
          obtain rfl := Option.some.inj ha
          rw [hlen, hcb] at hx
          obtain rfl := Option.some.inj hx
          rw [upd_ne qlp.symm]
          exact upd_same
      · have n4 : H p = none := ((b2.trans b3).trans b4).free np (R4.ne np).symm
        exact (((b2.trans b3).trans b4).new n4).new f1
    · rintro σ H2 ⟨⟨v2, v3, rfl⟩, R2, ⟨as, a1, hlen, M⟩, b2, f1⟩
      refine ⟨_, rfl, l, _, rfl, .inl ⟨SqL.of a1, fun p np => ?_⟩⟩
      have ee : (cWords cs).length = 2 * 3 := by rw [cWords_len, G.1]
      refine k _ p (b2.new (b2.free np (R2.ne np).symm)) (by rw [ee]; exact R2.upd_new np) ⟨as, SqT.of upd_same, by rw [hlen, G.1], fun j a c ha hc => SqT.of ?_⟩ (R2.ne np).symm
      have z := M j a c ha hc
      rw [upd_ne (ne_of_none z np)]
      exact z
theorem sc47 : FnScope ["text", "row", "beyond", "found"] ["text"] (defScope (top 47)) := ⟨rfl, rfl, rfl, by decide +kernel, rfl, by decide +kernel, by decide +kernel⟩
theorem pm47 (T : Txt P w K mg C fI W) : Pm P w K mg base CX0 7 "read_array" (spReadA K) := T.d47.pm fun f fd F => by
  refine F.ok sc47 (fun vs H Q E h => ?_) (fun cdv A outer s H vs Q E hr h => ?_)
  · obtain ⟨sh, its, rfl, _⟩ := h
    rfl
  · obtain ⟨sh, its, rfl, G, hn, k⟩ := h
    refine ⟨_, pss_cons (ps_asg (pe_f (pm35 T) (hr.mono (by decide)) pass0 (pa_cons (pv 0) pa_nil)) (pg_tup rfl (pgs_cons (pg_name (i := 1) sc47.nd rfl (Or.inl rfl)) (pgs_cons (pg_name (i := 2) sc47.nd rfl (Or.inl rfl)) pgs_nil))))
      (pss_cons (ps_set (i := 3) sc47.nd rfl (Or.inl rfl) (pe_f (pm45 T) (hr.mono (by decide)) pass0 (pa_cons (pv 1) pa_nil)))
      (pss_cons (ps_expr (pe_f (pm36 T) (hr.mono (by decide)) pass0 (pa_cons (pv 1) (pa_cons (pv 2) pa_nil))))
      (pss_one (ps_ret (pe_f (pm20 T) hr pass0 (pa_cons (pv 3) pa_nil)))))), ?_⟩
    have es : Txt.split (aText sh its) sp = aWords sh its := split_words (aWords_ne _ _) (plain_aWords _ _)
    have e1 : Txt.split (aText sh its) nl = [aText sh its] := one_line (plain_aWords _ _)
    have hl := aText_len G (fit_small hn)
    have hw := aWords_len sh its
    have g1 := G.len
    have g2 := G.few
    refine ⟨_, rfl, aText sh its, rfl, Nat.le_trans (Nat.add_le_add_right hl 2) (by decide), by rw [es]; omega, e1, fun H1 p r s1 nr npr R1 hp => ?_⟩
    rw [es] at R1
    refine ⟨p, _, rfl, SqT.of hp, rfl, _, _, rfl, _, _, rfl, rfl, ?_⟩
    refine ⟨_, rfl, r, sh, its, rfl, R1, G, hn, fun H2 q b2 R2 A2 nq => ?_⟩
    refine ⟨_, rfl, _, rfl, r, _, _, 0, rfl, R2, awEnd sh its, ?_⟩
    exact ⟨_, rfl, q, sh, its, rfl, A2, G, fun H3 s3 => k H3 q ((But.same s1 b2 nr).trans s3) (A2.same s3)⟩
theorem sc48 : FnScope ["text", "row", "beyond", "found"] ["text"] (defScope (top 48)) := ⟨rfl, rfl, rfl, by decide +kernel, rfl, by decide +kernel, by decide +kernel⟩
theorem pm48 (T : Txt P w K mg C fI W) : Pm P w K mg base CX0 5 "read_customs" (spReadC K) := T.d48.pm fun f fd F => by
  refine F.ok sc48 (fun vs H Q E h => ?_) (fun cdv A outer s H vs Q E hr h => ?_)
  · obtain ⟨cs, rfl, _⟩ := h
    rfl
  · obtain ⟨cs, rfl, G, k⟩ := h
    refine ⟨_, pss_cons (ps_asg (pe_f (pm35 T) (hr.mono (by decide)) pass0 (pa_cons (pv 0) pa_nil)) (pg_tup rfl (pgs_cons (pg_name (i := 1) sc48.nd rfl (Or.inl rfl)) (pgs_cons (pg_name (i := 2) sc48.nd rfl (Or.inl rfl)) pgs_nil))))
      (pss_cons (ps_set (i := 3) sc48.nd rfl (Or.inl rfl) (pe_f (pm46 T) hr pass0 (pa_cons (pv 1) pa_nil)))
      (pss_cons (ps_expr (pe_f (pm36 T) (hr.mono (by decide)) pass0 (pa_cons (pv 1) (pa_cons (pv 2) pa_nil))))
      (pss_one (ps_ret (pv 3))))), ?_⟩
    have es : Txt.split (cText cs) sp = cWords cs := split_words (cWords_ne G) (plain_cWords G.2)
    have e1 : Txt.split (cText cs) nl = [cText cs] := one_line (plain_cWords G.2)
    have hl := cText_len G
    have hw := cWords_len cs
    have g1 := G.1
    refine ⟨_, rfl, cText cs, rfl, Nat.le_trans (Nat.add_le_add_right hl 2) (by decide), by rw [es]; omega, e1, fun H1 p r s1 nr npr R1 hp => ?_⟩
    rw [es] at R1
    refine ⟨p, _, rfl, SqT.of hp, rfl, _, _, rfl, _, _, rfl, rfl, ?_⟩
    refine ⟨_, rfl, r, cs, rfl, R1, G, fun H2 q b2 R2 A2 nq => ?_⟩
    refine ⟨_, rfl, _, rfl, r, _, _, 6, rfl, R2, List.getElem?_eq_none_iff.mpr (Nat.le_refl _), ?_⟩
    exact ⟨_, rfl, k H2 q (But.same s1 b2 nr) A2⟩
end
end K67
/-! _law_heard: it calls the lambda that it got; TooGreat is caught. -/
namespace K67
open PySem PySem.Spec PyProof.Rows L2 LamX
theorem takes_len {X : Cx} {W : WX} (t : Takes X W) : Takes X (fun cls d σ H => σ.length = X.N.length → W cls d σ H) := fun u s' ⟨a, B, sI, pins, σ, H, cls, d, e, I, nb, up, sky, na, os, ag, w⟩ =>
  t u s' ⟨a, B, sI, pins, σ, H, cls, d, e, I, nb, up, sky, na, os, ag, w I.len⟩
def vGreat : V := .str (("great" : String) : Str)
/-- what the caller of _law_heard must show: the lambda raises TooGreat with 31 -/
def TTheard (C : Addr) : (XK → Hp → VK → Prop) → Hp → VK → Prop := fun tl H Q => ∀ H0, Same H H0 → ∀ Q', tl (fun cls d H' => cls = .ref C ∧ ∃ dd, d = some dd ∧ H' dd = some (.xd [(("most" : Str), .int 31)]) ∧ ∀ p, H' p = none → Q (.ref p) (upd H' p (.tup [vGreat, .int 31]))) H0 Q'
abbrev N61 : List Str := ["_law_call", "_law_found", "error"]
theorem sc61 : FnScope N61 ["_law_call"] (defScope (top 61)) := ⟨rfl, rfl, rfl, by decide +kernel, rfl, by decide +kernel, by decide +kernel⟩
theorem len3 {σ : L2.St} (h : σ.length = 3) : ∃ x y z, σ = [x, y, z] := by
  match σ, h with
  | [x, y, z], _ => exact ⟨x, y, z, rfl⟩
theorem heard_gives {X : Cx} {C fI Wr g : Addr} {cdg : Value} {q : Str} (T : Txt X.prog X.w X.K X.mg C fI Wr) : GivesTo X N61 "_law_heard" (defScope (top 61)) g cdg (defBody (top 61)) "_law_call" q (TTheard C) := by
  intro f c' s H Q tl act hc h
  have xf : XfC X.K C := ⟨T.great.ga, T.great.gg, T.great.exC, T.great.hdC⟩
  refine ⟨_, pss_cons (ps_set (i := 1) sc61.nd rfl (Or.inl rfl) (pe_lst pa_nil))
    (pss_cons (ps_try_as (i := 2) (c := .ref C) (tb := fun W D σ H => ∃ Ech : XK, (∀ cls d σ' H', Ech cls d H' → (σ'.length = 3 → W cls d σ' H')) ∧ σ[0]? = some (some (.ref f)) ∧ H c' = some (CodeO c' q) ∧ ∀ Q', tl Ech H Q')
      rfl rfl sc61.nd rfl rfl ⟨rfl, by decide, .inl T.great.gC⟩ L2.takes0 (fun W pn xe tk _ => ?_) (fun a oe cls d pn hz hf => pss_one (ps_set (i := 1) sc61.nd rfl (Or.inl rfl) (pe_tup (pa_cons pe_str (pa_cons (pe_xf xf T.great.noN hz hf (pv 2)) pa_nil))))))
    (pss_one (ps_ret (pv 1)))), ?_⟩
  · refine ⟨fun pins s' σ H' D I h' => ?_⟩
    obtain ⟨Ech, hW, h1, h2, h3⟩ := h'
    refine (pss_one (ps_set (i := 1) sc61.nd rfl (Or.inl rfl) (pe_lst (pa_cons (act _ pn xe Ech _ _ (takes_len tk) hW) pa_nil)))).run pins s' σ H' D I ?_
    exact ⟨h1, h2, h3 _⟩
  · refine ⟨by show 0 ≤ sizeLine; decide, fun l nl' => ?_⟩
    have s0 : Same H (upd H l (.lst [])) := same_upd nl'
    refine ⟨_, ?_, rfl, s0 _ _ hc, h _ s0⟩
    rintro cls d σ' H' ⟨rfl, dd, rfl, hx, hq⟩ hl
    obtain ⟨x, y, z, rfl⟩ := len3 hl
    refine ⟨true, T.great.te, fun _ a ha => ?_, fun z => Bool.noConfusion z⟩
    refine ⟨_, rfl, rfl, rfl, dd, _, .int 31, rfl, hx, by simp [List.lookup], by show 2 ≤ sizeLine; decide, fun p np => ?_⟩
    exact ⟨_, rfl, hq p np⟩
end K67
/-! The law's draws. -/
namespace K67
open PySem PySem.Spec PyProof.Rows L2 TL
/-- cells in range -/
def Cells (l : List Int) : Prop := l.length = 64 ∧ ∀ c ∈ l, 0 ≤ c ∧ c < 2147483647
theorem Cells.set {l : List Int} (h : Cells l) (j : Nat) {z : Int} (h0 : 0 ≤ z) (h1 : z < 2147483647) : Cells (l.set j z) :=
  ⟨by rw [List.length_set]; exact h.1, fun c hc => by
    rcases List.mem_or_eq_of_mem_set hc with q | q
    · exact h.2 c q
    · rw [q]; exact ⟨h0, h1⟩⟩
theorem Cells.get {l : List Int} (h : Cells l) {j : Nat} (hj : j < 64) : ∃ c, l[j]? = some c ∧ 0 ≤ c ∧ c < 2147483647 := by
  have hl : j < l.length := by rw [h.1]; exact hj
  exact ⟨l[j], List.getElem?_eq_getElem hl, h.2 _ (List.getElem_mem hl)⟩
theorem ixN_nat {n j : Nat} {k : Int} (e : k = (j : Int)) (h : j < n) : ixN n k = some j := by
  unfold ixN
  rw [if_pos (by omega), if_pos (by omega)]
  congr 1
  omega
theorem map_set {l : List Int} {j : Nat} {z : Int} : (l.map V.int).set j (.int z) = (l.set j z).map V.int := by rw [List.map_set]
theorem ints_at {l : List Int} {j : Nat} {z : Int} (h : l[j]? = some z) : (l.map V.int)[j]? = some (.int z) := by rw [List.getElem?_map, h]; rfl
def spMixed : Sp := fun vs H Q _ => ∃ c n : Int, vs = [.int c, .int n] ∧ 0 ≤ n ∧ n < 1000000 ∧ ∀ r, 0 ≤ r → Q (.int r) H
def spFolded (K : PySem.W.Frag) : Sp := fun vs H Q _ => ∃ (a : Addr) (ns : List Int), vs = [.ref a] ∧ SqL K H a (ns.map V.int) ∧ ∀ H' p cs, Same H H' → H p = none → H' p = some (.lst (cs.map V.int)) → Cells cs → Q (.ref p) H'
/-- the drawing dict at m: its cells at c, its great ones at g; n drawn at most N -/
structure Dr (m c g : Addr) (N : Int) (H : Hp) : Prop where
  ex : ∃ (n : Int) (cs gs : List Int), 0 ≤ n ∧ n ≤ N ∧ H m = some (.dK [(.inr ("cells" : Str), .ref c), (.inr ("great" : Str), .ref g), (.inr ("spot" : Str), .int n)]) ∧
    H c = some (.lst (cs.map V.int)) ∧ Cells cs ∧ H g = some (.lst (gs.map V.int)) ∧ gs.length ≤ 63 ∧ c ≠ g
/-- all but m and g stands -/
def Kp (m g : Addr) (H H' : Hp) : Prop := ∀ b o, H b = some o → b ≠ m → b ≠ g → H' b = some o
theorem Kp.refl (m g : Addr) (H : Hp) : Kp m g H H := fun _ _ e _ _ => e
theorem Kp.trans {m g : Addr} {H H1 H2 : Hp} (a : Kp m g H H1) (b : Kp m g H1 H2) : Kp m g H H2 := fun c o e n1 n2 => b c o (a c o e n1 n2) n1 n2
theorem Kp.of {m g : Addr} {H H' : Hp} (a : Same H H') : Kp m g H H' := fun c o e _ _ => a c o e
theorem Kp.same {m g : Addr} {H H1 H2 : Hp} (a : Same H H1) (b : Kp m g H1 H2) (hm : H m = none) (hg : H g = none) : Same H H2 := fun c o e => b c o (a c o e) (ne_of_none e hm) (ne_of_none e hg)
theorem Dr.mono {m c g : Addr} {N N' : Int} {H : Hp} (d : Dr m c g N H) (h : N ≤ N') : Dr m c g N' H := by
  obtain ⟨n, cs, gs, h1, h2, r⟩ := d.ex
  exact ⟨n, cs, gs, h1, Int.le_trans h2 h, r⟩
theorem Dr.same {m c g : Addr} {N : Int} {H H' : Hp} (d : Dr m c g N H) (s : Same H H') : Dr m c g N H' := by
  obtain ⟨n, cs, gs, h1, h2, h3, h4, h5, h6, h7, h8⟩ := d.ex
  exact ⟨n, cs, gs, h1, h2, s _ _ h3, s _ _ h4, h5, s _ _ h6, h7, h8⟩
theorem Dr.tup {m c g : Addr} {N : Int} {H H' : Hp} (d : Dr m c g N H) (k : Kp m g H H') {K : PySem.W.Frag} {a : Addr} {xs : List V} (h : SqT K H a xs) : SqT K H' a xs := by
  obtain ⟨n, cs, gs, h1, h2, h3, h4, h5, h6, h7, h8⟩ := d.ex
  rcases h with (h | ⟨o, h⟩) | h
  · exact .inl (.inl (k _ _ h (ne_of h h3 (by intro z; cases z)) (ne_of h h6 (by intro z; cases z))))
  · exact .inl (.inr ⟨o, k _ _ h (ne_of h h3 (by intro z; cases z)) (ne_of h h6 (by intro z; cases z))⟩)
  · exact .inr h
/-- the slots of a draw -/
def spDraw : Sp := fun vs H Q _ => ∃ (m c g : Addr) (N lim : Int), vs = [.ref m, .int lim] ∧ 0 < lim ∧ lim < 1073741824 ∧ Dr m c g N H ∧ N < 100000 ∧ ∀ H' r, 0 ≤ r → r < lim → Dr m c g (N + 1) H' → Kp m g H H' → Q (.int r) H'
def spBegun (K : PySem.W.Frag) : Sp := fun vs H Q _ => ∃ (a : Addr) (ns : List Int), vs = [.ref a] ∧ SqL K H a (ns.map V.int) ∧ ns.length ≤ 63 ∧ ∀ H' m c g, Same H H' → H m = none → H g = none → Dr m c g 0 H' → Q (.ref m) H'
section
variable {P : Program} {w : World} {K : PySem.W.Frag} {mg : Str → Option Value} {base : Heap} {C fI W : Addr}
theorem sc50 : FnScope ["_law_cell", "_law_n", "_law_blend"] ["_law_cell", "_law_n"] (defScope (top 50)) := ⟨rfl, rfl, rfl, by decide +kernel, rfl, by decide +kernel, by decide +kernel⟩
theorem pm50 (T : Txt P w K mg C fI W) : Pm P w K mg base CX0 1 "_law_mixed" spMixed := T.d50.pm fun f fd F => by
  refine F.ok sc50 (fun vs H Q E h => ?_) (fun cdv A outer s H vs Q E hr h => ?_)
  · obtain ⟨c, n, rfl, _⟩ := h
    rfl
  · obtain ⟨c, n, rfl, h0, h1, k⟩ := h
    refine ⟨_, pss_cons (ps_set (i := 2) sc50.nd rfl (Or.inl rfl) (pe_op op_add (pe_op op_add (pe_op op_mod (pe_callTy call_int1 (by rfl) T.nInt (by decide +kernel) (pa_cons (pe_op op_mul (pe_op op_mul (pv 0) (pe_op op_add pe_int (pe_op op_mul pe_int (pv 1)))) pe_int) pa_nil)) pe_int)
        (pe_op op_mul (pe_op op_mul pe_int (pv 1)) (pv 1))) (pe_op op_mul pe_int (pv 1))))
      (pss_one (ps_ret (pe_op op_fdiv (pe_op op_mod (pe_callTy call_int1 (by rfl) T.nInt (by decide +kernel) (pa_cons (pe_op op_mul (pv 2) pe_int) pa_nil)) pe_int) pe_int))), ?_⟩
    have b1 : -(2 ^ 64 : Int) < 1 + 2 * n ∧ 1 + 2 * n < 2 ^ 64 := by omega
    have b2 : -(2 ^ 64 : Int) < 48271 ∧ (48271 : Int) < 2 ^ 64 := by decide
    have b3 : -(2 ^ 64 : Int) < n ∧ n < 2 ^ 64 := by omega
    have b4 : -(2 ^ 64 : Int) < 2 ∧ (2 : Int) < 2 ^ 64 := by decide
    have b5 : -(2 ^ 64 : Int) < 7919 ∧ (7919 : Int) < 2 ^ 64 := by decide
    have b6 : -(2 ^ 64 : Int) < 104729 ∧ (104729 : Int) < 2 ^ 64 := by decide
    have b7 : -(2 ^ 64 : Int) < 69621 ∧ (69621 : Int) < 2 ^ 64 := by decide
    refine ⟨_, rfl, _, rfl, _, _, rfl, rfl, .inl b4, _, _, rfl, rfl, _, _, rfl, rfl, .inr b1, _, _, rfl, rfl, .inr b2, .inl ⟨_, rfl, ?_⟩⟩
    refine ⟨_, _, rfl, rfl, (by show (0 : Int) < 2147483647; decide), _, rfl, _, _, rfl, rfl, .inl b5, _, rfl, _, _, rfl, rfl, .inr b3, _, _, rfl, rfl, _, rfl, _, _, rfl, rfl, .inl b6, _, _, rfl, rfl, ?_⟩
    refine ⟨_, rfl, _, _, rfl, rfl, .inr b7, .inl ⟨_, rfl, _, _, rfl, rfl, (by show (0 : Int) < 2147483629; decide), _, _, rfl, rfl, ⟨by decide, by decide⟩, k _ ?_⟩⟩
    exact Int.ediv_nonneg (Int.emod_nonneg _ (by decide)) (by decide)
theorem sc51 : FnScope ["_law_script", "_law_found", "_law_n", "_law_cell"] ["_law_script"] (defScope (top 51)) := ⟨rfl, rfl, rfl, by decide +kernel, rfl, by decide +kernel, by decide +kernel⟩
theorem pm51 (T : Txt P w K mg C fI W) : Pm P w K mg base CX0 1 "_law_folded" (spFolded K) := T.d51.pm fun f fd F => by
  refine F.ok sc51 (fun vs H Q E h => ?_) (fun cdv A outer s H vs Q E hr h => ?_)
  · obtain ⟨a, ns, rfl, _⟩ := h
    rfl
  · obtain ⟨a, ns, rfl, hs, k⟩ := h
    refine ⟨_, pss_cons (ps_setLc (i := 1) (own := [("_law_n", 2)]) (g := gName 2) (tt := tYes) rfl sc51.nd rfl rfl (sw_true rfl rfl rfl (by decide +kernel)) (pi_range1 rfl T.nRange (pa_cons pe_int pa_nil)) (blkOk_by (own := [("_law_n", 2)]) (N := ["_law_script", "_law_found", "_law_n", "_law_cell"]) (sc := defScope (top 51)) (by decide +kernel))
        (fun _ _ _ _ _ => pg_name (i := 2) sc51.nd rfl (Or.inl rfl)) (fun _ _ _ _ _ => pts_nil) (fun _ _ _ _ _ => pe_op op_add pe_int (pv 2)))
      (pss_cons (ps_for PassesOwn.never rfl (pi_enum (by rfl) T.nEnum (pa_cons (pv 0) pa_nil)) (pg_tup rfl (pgs_cons (pg_name (i := 2) sc51.nd rfl (Or.inl rfl)) (pgs_cons (pg_name (i := 3) sc51.nd rfl (Or.inl rfl)) pgs_nil)))
        (pss_one (ps_asg (pe_op op_mod (pe_callTy call_int1 (by rfl) T.nInt (by decide +kernel) (pa_cons (pe_op op_add (pe_op op_mul (pe_ix ix_list (pv 1) (pe_op op_mod (pe_callTy call_int1 (by rfl) T.nInt (by decide +kernel) (pa_cons (pv 2) pa_nil)) pe_int) (fun _ _ => rfl)) pe_int) (pv 3)) pa_nil)) pe_int)
          (pg_sub (pv 1) (pe_op op_mod (pe_callTy call_int1 (by rfl) T.nInt (by decide +kernel) (pa_cons (pv 2) pa_nil)) pe_int) set_list))))
      (pss_cons (ps_for PassesOwn.never rfl (pi_range2 (by rfl) T.nRange (pa_cons pe_int (pa_cons pe_int pa_nil))) (pg_name (i := 2) sc51.nd rfl (Or.inl rfl))
        (pss_one (ps_asg (pe_op op_mod (pe_callTy call_int1 (by rfl) T.nInt (by decide +kernel) (pa_cons (pe_op op_add (pe_ix ix_list (pv 1) (pv 2) (fun _ _ => rfl)) (pe_op op_mul (pe_ix ix_list (pv 1) (pe_op op_sub (pv 2) pe_int) (fun _ _ => rfl)) pe_int)) pa_nil)) pe_int)
          (pg_sub (pv 1) (pv 2) set_list))))
      (pss_one (ps_ret (pv 1))))), ?_⟩
    have hin : ∀ i : Nat, ((i : Nat) : Int) % 64 = ((i % 64 : Nat) : Int) := fun i => by omega
    have hlt : ∀ i : Nat, i % 64 < 64 := fun i => Nat.mod_lt _ (by decide)
    refine ⟨64, rfl, by decide, by decide, fun D nD => lc_range (lo := 0) (n := 64) (fun i H2 => Same H H2 ∧ ∃ cs : List Int, H2 D = some (.lst (cs.map V.int)) ∧ cs.length = i ∧ ∀ c ∈ cs, 0 ≤ c ∧ c < 2147483647) ⟨same_upd nD, [], upd_same, rfl, by simp⟩ ?_ ?_⟩
    · rintro i H2 hi ⟨s2, cs, hD, hc, hb⟩
      refine ⟨rfl, _, rfl, _, _, rfl, rfl, _, hD, ?_, same_updR s2 nD, cs ++ [17 + (0 + (i : Int))], ?_, ?_, ?_⟩
      · rw [List.length_map, hc]
        exact Nat.lt_trans hi (by decide)
      · rw [upd_same, List.map_append]
        rfl
      · rw [List.length_append, hc]
        rfl
      · intro c hm
        rcases List.mem_append.mp hm with q | q
        · exact hb c q
        · rw [List.mem_singleton.mp q]
          omega
    · rintro H2 ⟨s2, cs0, hD0, hc0, hb0⟩
      refine ⟨_, rfl, a, _, rfl, s2.seq hs, for_it walk_enum (fun i σ H3 => (∃ v2 v3, σ = [some (.ref a), some (.ref D), v2, v3]) ∧ Same H H3 ∧ ∃ cs, H3 D = some (.lst (cs.map V.int)) ∧ Cells cs) ⟨⟨none, none, rfl⟩, s2, cs0, hD0, hc0, hb0⟩ (fun i σ H3 _ ⟨_, s3, _⟩ => s3.seq hs) ?_ ?_⟩
      · rintro i y σ H3 H4 hi ⟨⟨v2, v3, rfl⟩, s3, cs, hD, hC⟩ ⟨t, n, x, rfl, nt, rfl, hn, hx⟩
        obtain rfl := Option.some.inj hn
        obtain ⟨z, hz, rfl⟩ := map_get hx
        obtain ⟨c, hc, c0, c1⟩ := hC.get (hlt i)
        have hD4 : (upd H3 t (.tup [.int (i : Nat), .int z])) D = some (.lst (cs.map V.int)) := by rw [upd_ne (ne_of_none hD nt)]; exact hD
        refine ⟨t, _, rfl, .of upd_same, rfl, _, _, rfl, _, _, rfl, rfl, ?_⟩
        refine ⟨_, rfl, _, rfl, .inl ⟨_, rfl, _, _, rfl, rfl, (by show (0 : Int) < 64; decide), D, _, _, _, rfl, rfl, SqL.of hD4, at_of (j := i % 64) (hin i) (ints_at hc), _, _, rfl, rfl, .inl (by omega), _, rfl, _, _, rfl, rfl,
          .inl ⟨_, rfl, _, _, rfl, rfl, (by show (0 : Int) < 2147483647; decide), _, rfl, _, rfl, .inl ⟨_, rfl, _, _, rfl, rfl, (by show (0 : Int) < 64; decide), D, _, _, i % 64, rfl, rfl, hD4, ixN_nat (hin i) (by rw [List.length_map, hC.1]; exact hlt i), ?_⟩⟩⟩⟩
        refine ⟨⟨_, _, rfl⟩, same_updR (same_updR s3 (s3.free nt)) nD, _, upd_same.trans (congrArg (fun q => some (HO.lst q)) map_set), hC.set _ (Int.emod_nonneg _ (by decide)) (Int.emod_lt_of_pos _ (by decide))⟩
      · rintro σ H3 ⟨⟨v2, v3, rfl⟩, s3, cs1, hD1, hC1⟩
        refine ⟨1, 64, rfl, ⟨by decide, by decide, by decide, by decide⟩, for_range (lo := 1) (n := 63) (fun i σ H4 => (∃ v2 v3, σ = [some (.ref a), some (.ref D), v2, v3]) ∧ Same H H4 ∧ ∃ cs, H4 D = some (.lst (cs.map V.int)) ∧ Cells cs) ⟨⟨_, _, rfl⟩, s3, cs1, hD1, hC1⟩ ?_ ?_⟩
        · rintro i σ H4 hi ⟨⟨v2, v3, rfl⟩, s4, cs, hD, hC⟩
          obtain ⟨c, hc, c0, c1⟩ := hC.get (show i + 1 < 64 by omega)
          obtain ⟨c', hc', c0', c1'⟩ := hC.get (show i < 64 by omega)
          have e1 : (1 : Int) + (i : Int) = ((i + 1 : Nat) : Int) := by omega
          have e2 : (1 : Int) + (i : Int) - 1 = ((i : Nat) : Int) := by omega
          refine ⟨_, rfl, _, rfl, D, _, _, _, rfl, rfl, SqL.of hD, at_of (j := i + 1) e1 (ints_at hc), _, rfl, _, rfl, _, _, rfl, rfl, D, _, _, _, rfl, rfl, SqL.of hD, at_of (j := i) e2 (ints_at hc'), _, _, rfl, rfl, .inl (by omega), _, _, rfl, rfl,
            .inl ⟨_, rfl, _, _, rfl, rfl, (by show (0 : Int) < 2147483647; decide), _, rfl, _, rfl, D, _, _, i + 1, rfl, rfl, hD, ixN_nat e1 (by rw [List.length_map, hC.1]; omega), ?_⟩⟩
          exact ⟨⟨_, _, rfl⟩, same_updR s4 nD, _, upd_same.trans (congrArg (fun q => some (HO.lst q)) map_set), hC.set _ (Int.emod_nonneg _ (by decide)) (Int.emod_lt_of_pos _ (by decide))⟩
        · rintro σ H4 ⟨⟨v2, v3, rfl⟩, s4, cs, hD, hC⟩
          exact ⟨_, rfl, k H4 D cs s4 nD hD hC⟩
end
end K67
/-! One draw; the drawing dict's begin. -/
namespace K67
open PySem PySem.Spec PyProof.Rows L2 TL
/-! ### plain data of integers -/
theorem lay_ints : ∀ ns : List Int, PyData.canLayAll0 (ns.map PyData.int) = true
  | [] => by simp [PyData.canLayAll0]
  | n :: r => by simp [PyData.canLayAll0, PyData.canLay0, lay_ints r]
theorem depth_ints : ∀ ns : List Int, PyData.depthAll (ns.map PyData.int) = 0
  | [] => by simp [PyData.depthAll]
  | n :: r => by simp [PyData.depthAll, PyData.depth, depth_ints r]
theorem shaped_list (ns : List Int) : SeqAt.shaped (.list (ns.map PyData.int)) = true := by
  unfold SeqAt.shaped
  simp [PyData.canLay0, PyData.depth, lay_ints, depth_ints]
theorem shaped_tup (ns : List Int) : SeqAt.shaped (.tuple (ns.map PyData.int)) = true := by
  unfold SeqAt.shaped
  simp [PyData.canLay0, PyData.depth, lay_ints, depth_ints]
theorem dp_ints {K : PySem.W.Frag} {H : Hp} : ∀ ns : List Int, DpAll K H (ns.map V.int) (ns.map PyData.int)
  | [] => .nil
  | n :: r => .cons (.int n) (dp_ints r)
/-! ### the dict -/
abbrev keyC : Key := Sum.inr ("cells" : Str)
abbrev keyG : Key := Sum.inr ("great" : Str)
abbrev keyS : Key := Sum.inr ("spot" : Str)
def drk (c g : Addr) (n : Int) : List (Key × V) := [(keyC, .ref c), (keyG, .ref g), (keyS, .int n)]
theorem kcg : ¬ (keyC = keyG) := by decide +kernel
theorem kcs : ¬ (keyC = keyS) := by decide +kernel
theorem kgs : ¬ (keyG = keyS) := by decide +kernel
theorem val_cells (c g : Addr) (n : Int) : valV (drk c g n) keyC = some (.ref c) := valV_pos (p := (keyC, V.ref c)) (r := [(keyG, .ref g), (keyS, .int n)]) rfl
theorem val_great (c g : Addr) (n : Int) : valV (drk c g n) keyG = some (.ref g) :=
  (valV_neg (p := (keyC, V.ref c)) (r := [(keyG, .ref g), (keyS, .int n)]) kcg).trans (valV_pos (p := (keyG, V.ref g)) (r := [(keyS, .int n)]) rfl)
theorem val_spot (c g : Addr) (n : Int) : valV (drk c g n) keyS = some (.int n) :=
  (valV_neg (p := (keyC, V.ref c)) (r := [(keyG, .ref g), (keyS, .int n)]) kcs).trans ((valV_neg (p := (keyG, V.ref g)) (r := [(keyS, .int n)]) kgs).trans (valV_pos (p := (keyS, V.int n)) (r := []) rfl))
theorem put_spot (c g : Addr) (n n' : Int) : putK (drk c g n) keyS (.int n') = drk c g n' := by
  unfold putK
  rw [valV_any, val_spot, if_pos (show (some (V.int n)).isSome = true from rfl)]
  unfold drk
  rw [List.map_cons, List.map_cons, List.map_cons, if_neg kcs, if_neg kgs, if_pos rfl]
  rfl
theorem put_great (c g g' : Addr) (n : Int) : putK (drk c g n) keyG (.ref g') = drk c g' n := by
  unfold putK
  rw [valV_any, val_great, if_pos (show (some (V.ref g)).isSome = true from rfl)]
  unfold drk
  have h : ¬ (keyS = keyG) := fun e => kgs e.symm
  rw [List.map_cons, List.map_cons, List.map_cons, if_neg kcg, if_pos rfl, if_neg h]
  rfl
theorem dget {H : Hp} {a : Addr} {kvs : List (Key × V)} {k : Key} {v : V} (e : H a = some (.dK kvs)) (h : valV kvs k = some v) : DGet H a (kV k) (some v) := by
  rw [← h]
  exact DGet.k e
theorem pss_imp {X : Cx} {sts : List Stmt} {t t' : TS} (h : PSs X sts t) (imp : ∀ D σ H, t' D σ H → t D σ H) : PSs X sts t' := ⟨fun pins s σ H D I q => h.run pins s σ H D I (imp D σ H q)⟩
theorem ps_imp {X : Cx} {st : Stmt} {t t' : TS} (h : PS X st t) (imp : ∀ D σ H, t' D σ H → t D σ H) : PS X st t' := ⟨fun pins s σ H D I q => h.run pins s σ H D I (imp D σ H q)⟩
/-- a draw from the cells -/
def tFall : TS := fun D σ H => ∃ (m c g : Addr) (n n' lim : Int) (cs : List Int) (v3 v4 v5 : Option V), σ = [some (.ref m), some (.int lim), some (.int n), v3, v4, v5] ∧ 0 < lim ∧ H m = some (.dK (drk c g n')) ∧ H c = some (.lst (cs.map V.int)) ∧ Cells cs ∧ 0 ≤ n ∧ n < 900000 ∧
  ∀ r, 0 ≤ r → r < lim → D.rt (.int r) H
section
variable {P : Program} {w : World} {K : PySem.W.Frag} {mg : Str → Option Value} {base : Heap} {C fI W : Addr}
theorem sc52 : FnScope ["_law_m", "_law_limit", "_law_n", "_law_lot", "_law_here", "_law_cell"] ["_law_m", "_law_limit"] (defScope (top 52)) := ⟨rfl, rfl, rfl, by decide +kernel, rfl, by decide +kernel, by decide +kernel⟩
theorem pm52 (T : Txt P w K mg C fI W) : Pm P w K mg base CX0 2 "_law_draw" spDraw := T.d52.pm fun f fd F => by
  refine F.ok sc52 (fun vs H Q E h => ?_) (fun cdv A outer s H vs Q E hr h => ?_)
  · obtain ⟨m, c, g, N, lim, rfl, _⟩ := h
    rfl
  · obtain ⟨m, c, g, N, lim, rfl, l0, l1, D, hN, k⟩ := h
    have hu := hu_of hr
    refine ⟨_, pss_cons (ps_set (i := 2) sc52.nd rfl (Or.inl rfl) (pe_dget hu (pv 0) pe_str (fun _ _ => rfl)))
      (pss_cons (ps_dput hu (pv 0) pe_str (pe_op op_add (pv 2) pe_int) rfl)
      (pss_cons (ps_if (pt_cmpR (op_neD hr.units) (pe_dget hu (pv 0) pe_str (fun _ _ => rfl)) (pe_lst pa_nil) (nomark _))
        (pss_cons (ps_set (i := 3) sc52.nd rfl (Or.inl rfl) (pe_dget hu (pv 0) pe_str (fun _ _ => rfl)))
        (pss_cons (ps_set (i := 4) sc52.nd rfl (Or.inl rfl) (pe_op op_mod (pe_callTy call_int1 (by rfl) T.nInt (by decide +kernel) (pa_cons (pv 2) pa_nil)) (pe_callB call_len (by rfl) T.nLen PySem.boot_len (pa_cons (pv 3) pa_nil))))
        (pss_cons (ps_set (i := 5) sc52.nd rfl (Or.inl rfl) (pe_ix ix_list (pv 3) (pv 4) (fun _ _ => rfl)))
        (pss_one (ps_if (pt_cmpR op_gt (pv 5) pe_int (nomark _))
          (pss_cons (ps_asg (pe_op op_fdiv (pv 5) (pv 1)) (pg_sub (pv 3) (pv 4) set_list))
          (pss_one (ps_ret (pe_op op_mod (pe_callTy call_int1 (by rfl) T.nInt (by decide +kernel) (pa_cons (pv 5) pa_nil)) (pv 1))))) pss_nil)))))
        pss_nil)
      (pss_imp (t' := tFall) (pss_cons (ps_set (i := 3) sc52.nd rfl (Or.inl rfl) (pe_dget hu (pv 0) pe_str (fun _ _ => rfl)))
      (pss_one (ps_ret (pe_op op_mod (pe_callTy call_int1 (by rfl) T.nInt (by decide +kernel) (pa_cons (pe_f (pm50 T) hr pass0 (pa_cons (pe_f (pm50 T) hr pass0 (pa_cons (pe_op op_add (pe_ix ix_list (pv 3) (pe_op op_mod (pe_callTy call_int1 (by rfl) T.nInt (by decide +kernel) (pa_cons (pv 2) pa_nil)) pe_int) (fun _ _ => rfl))
          (pe_op op_mul pe_int (pe_op op_fdiv (pv 2) pe_int))) (pa_cons (pv 2) pa_nil))) (pa_cons (pe_op op_add (pv 2) pe_int) pa_nil))) pa_nil)) (pv 1))))) (fun D σ H => ?_)))), ?_⟩
    · rintro ⟨m, c, g, n, n', lim, cs, v3, v4, v5, rfl, l0, hm, hc, hC, n0, n1, q⟩
      have hi : n % 64 = ((n.toNat % 64 : Nat) : Int) := by omega
      obtain ⟨z, hz, z0, z1⟩ := hC.get (show n.toNat % 64 < 64 from Nat.mod_lt _ (by decide))
      refine ⟨_, rfl, m, _, rfl, dget hm (val_cells c g n'), ?_⟩
      refine ⟨_, rfl, _, rfl, .inl ⟨_, rfl, _, _, rfl, rfl, (by show (0 : Int) < 64; decide), c, _, _, _, rfl, rfl, SqL.of hc, at_of hi (ints_at hz), _, rfl, _, _, rfl, rfl, ⟨by decide, by decide⟩, _, _, rfl, rfl, .inl ⟨by decide, by decide⟩, _, _, rfl, rfl, _, rfl, ?_⟩⟩
      refine ⟨_, _, rfl, n0, by omega, fun r hr0 => ?_⟩
      refine ⟨_, rfl, _, _, rfl, rfl, _, _, rfl, by omega, by omega, fun r2 hr2 => ?_⟩
      exact .inl ⟨_, rfl, _, rfl, _, _, rfl, rfl, l0, q _ (Int.emod_nonneg _ (by omega)) (Int.emod_lt_of_pos _ l0)⟩
    obtain ⟨n, cs, gs, n0, n1, hm, hc, hC, hg, hgl, ncg⟩ := D.ex
    have nmc : m ≠ c := ne_of hm hc (by intro z; cases z)
    have nmg : m ≠ g := ne_of hm hg (by intro z; cases z)
    refine ⟨_, rfl, m, _, rfl, dget hm (val_spot c g n), ?_⟩
    obtain ⟨H1, eH1⟩ : ∃ H1, H1 = upd H m (.dK (drk c g (n + 1))) := ⟨_, rfl⟩
    have dp : DPut H m (kV keyS) (.int (n + 1)) H1 := by
      rw [eH1, ← put_spot c g n (n + 1)]
      exact DPut.k (k := keyS) hm (by show 3 < sizeLine; decide)
    refine ⟨_, rfl, _, _, rfl, rfl, _, rfl, m, H1, rfl, dp, ?_⟩
    have hm1 : H1 m = some (.dK (drk c g (n + 1))) := by rw [eH1]; exact upd_same
    have hc1 : H1 c = some (.lst (cs.map V.int)) := by rw [eH1, upd_ne nmc.symm]; exact hc
    have hg1 : H1 g = some (.lst (gs.map V.int)) := by rw [eH1, upd_ne nmg.symm]; exact hg
    have k1 : Kp m g H H1 := fun b o e h1 _ => by rw [eH1, upd_ne h1]; exact e
    clear eH1 dp
    refine ⟨_, rfl, m, _, rfl, dget hm1 (val_great c g (n + 1)), by show 0 ≤ sizeLine; decide, fun l nl' => ?_⟩
    have s2 : Same H1 (upd H1 l (.lst [])) := same_upd nl'
    have hm2 := s2 _ _ hm1
    have hc2 := s2 _ _ hc1
    have hg2 := s2 _ _ hg1
    refine ⟨.list (gs.map PyData.int), .list [], .lst (SqL.of hg2) (dp_ints gs), .lst (SqL.of upd_same) .nil, shaped_list gs, shaped_list [], _, rfl, ?_⟩
    have k2 : Kp m g H (upd H1 l (.lst [])) := k1.trans (.of s2)
    have D2 : Dr m c g (N + 1) (upd H1 l (.lst [])) := ⟨n + 1, cs, gs, by omega, by omega, hm2, hc2, hC, hg2, hgl, ncg⟩
    cases e : (!PyData.eqv (.list (gs.map PyData.int)) (.list [])) with
    | false =>
      refine iteF ?_
      exact ⟨m, c, g, n, n + 1, lim, cs, none, none, none, rfl, l0, hm2, hc2, hC, n0, by omega, fun r h0 h1 => k _ r h0 h1 D2 k2⟩
    | true =>
      have hne : gs ≠ [] := fun z => by
        rw [z] at e
        simp [PyData.eqv, PyData.eqvAll] at e
      have hpos : 0 < gs.length := List.length_pos_iff.mpr hne
      refine iteT ?_
      refine ⟨_, rfl, m, _, rfl, dget hm2 (val_great c g (n + 1)), ?_⟩
      refine ⟨_, rfl, .inl ⟨_, rfl, _, rfl, _, _, rfl, .inl ⟨_, SqL.of hg2, rfl⟩, _, _, rfl, rfl, (by show (0 : Int) < (((gs.map V.int).length : Nat) : Int); rw [List.length_map]; omega), ?_⟩⟩
      have hl : (gs.map V.int).length = gs.length := List.length_map ..
      have hj : n % (((gs.map V.int).length : Nat) : Int) = ((n.toNat % gs.length : Nat) : Int) := by rw [hl, Int.natCast_emod, Int.toNat_of_nonneg n0]
      have hjl : n.toNat % gs.length < gs.length := Nat.mod_lt _ hpos
      have hz : gs[n.toNat % gs.length]? = some gs[n.toNat % gs.length] := List.getElem?_eq_getElem hjl
      refine ⟨_, rfl, _, rfl, g, _, _, _, rfl, rfl, SqL.of hg2, at_of hj (ints_at hz), ?_⟩
      refine ⟨_, rfl, _, _, rfl, rfl, _, rfl, ?_⟩
      by_cases hp : gs[n.toNat % gs.length] > 0
      · refine if_true_of (decide_eq_true hp) ?_
        refine ⟨_, rfl, _, rfl, _, _, rfl, rfl, ⟨l0, l1⟩, _, rfl, _, rfl, g, _, _, n.toNat % gs.length, rfl, rfl, hg2, ixN_nat hj (by rw [hl]; exact hjl), ?_⟩
        refine ⟨_, rfl, .inl ⟨_, rfl, _, rfl, _, _, rfl, rfl, l0, k _ _ (Int.emod_nonneg _ (by omega)) (Int.emod_lt_of_pos _ l0) ?_ ?_⟩⟩
        · refine ⟨n + 1, cs, gs.set (n.toNat % gs.length) _, by omega, by omega, ?_, ?_, hC, upd_same.trans (congrArg (fun q => some (HO.lst q)) map_set), by rw [List.length_set]; exact hgl, ncg⟩
          · rw [upd_ne nmg]; exact hm2
          · rw [upd_ne ncg]; exact hc2
        · intro b o eb h1 h2
          rw [upd_ne h2]
          exact k2 b o eb h1 h2
      · refine if_false_of (decide_eq_false hp) ?_
        exact ⟨m, c, g, n, n + 1, lim, cs, _, _, _, rfl, l0, hm2, hc2, hC, n0, by omega, fun r h0 h1 => k _ r h0 h1 D2 k2⟩
end
end K67
/-! The drawing dict's begin; drawn integers and arrays. -/
namespace K67
open PySem PySem.Spec PyProof.Rows L2 TL
theorem merge_drk (c g : Addr) (n : Int) : mergeK [] (drk c g n) = drk c g n := by
  show putK (putK (putK [] keyC (.ref c)) keyG (.ref g)) keyS (.int n) = _
  have h1 : putK ([] : List (Key × V)) keyC (.ref c) = [(keyC, .ref c)] := putK_new _ rfl
  have h2 : putK [(keyC, V.ref c)] keyG (.ref g) = [(keyC, .ref c), (keyG, .ref g)] := putK_new _ ((valV_neg (p := (keyC, V.ref c)) (r := []) kcg).trans rfl)
  have h3 : putK [(keyC, V.ref c), (keyG, V.ref g)] keyS (.int n) = drk c g n := putK_new _ ((valV_neg (p := (keyC, V.ref c)) (r := [(keyG, V.ref g)]) kcs).trans ((valV_neg (p := (keyG, V.ref g)) (r := []) kgs).trans rfl))
  rw [h1, h2, h3]
theorem Kp.free {m g : Addr} {H H' : Hp} (a : Kp m g H H') {l : Addr} (h : H' l = none) (n1 : l ≠ m) (n2 : l ≠ g) : H l = none := by
  cases q : H l with
  | none => rfl
  | some o => rw [a l o q n1 n2] at h; cases h
theorem Kp.updR {m g : Addr} {H H1 : Hp} {p : Addr} {o : HO} (a : Kp m g H H1) (h : H p = none) : Kp m g H (upd H1 p o) := fun c u e n1 n2 => by
  rw [upd_ne (ne_of_none e h)]; exact a c u e n1 n2
theorem Dr.upd {m c g : Addr} {N : Int} {H : Hp} {D : Addr} {o : HO} (d : Dr m c g N H) (h1 : D ≠ m) (h2 : D ≠ c) (h3 : D ≠ g) : Dr m c g N (L2.upd H D o) := by
  obtain ⟨n, cs, gs, a1, a2, a3, a4, a5, a6, a7, a8⟩ := d.ex
  exact ⟨n, cs, gs, a1, a2, by rw [upd_ne h1.symm]; exact a3, by rw [upd_ne h2.symm]; exact a4, a5, by rw [upd_ne h3.symm]; exact a6, a7, a8⟩
theorem Dr.new {m c g : Addr} {N : Int} {H : Hp} {D : Addr} (d : Dr m c g N H) (h : H D = none) : D ≠ m ∧ D ≠ c ∧ D ≠ g := by
  obtain ⟨n, cs, gs, a1, a2, a3, a4, a5, a6, a7, a8⟩ := d.ex
  exact ⟨(ne_of_none a3 h).symm, (ne_of_none a4 h).symm, (ne_of_none a6 h).symm⟩
/-! ### displays of tuples of numbers -/
def tInts : List Int → TA
  | [] => tNil
  | z :: r => tCons (tC (.int z)) (tInts r)
def tTups : List (List Int) → TA
  | [] => tNil
  | sh :: r => tCons (tTup (tInts sh)) (tTups r)
theorem tInts_ok : ∀ (l : List Int) (σ : L2.St) (H : Hp) (Q : List V → Hp → Prop), Q (l.map V.int) H → tInts l σ H Q
  | [], _, _, _, h => h
  | z :: r, σ, H, Q, h => tInts_ok r σ H (fun vs H1 => Q (.int z :: vs) H1) h
theorem tTups_ok : ∀ (l : List (List Int)) (σ : L2.St) (H : Hp) (Q : List V → Hp → Prop), (∀ sh ∈ l, sh.length ≤ sizeLine) →
    (∀ H' (as : List Addr), Same H H' → as.length = l.length → (∀ (i : Nat) a sh, as[i]? = some a → l[i]? = some sh → H' a = some (.tup (sh.map V.int)) ∧ H a = none) → Q (as.map V.ref) H') → tTups l σ H Q
  | [], _, H, _, _, h => h H [] (Same.refl H) rfl (fun i a sh ha _ => by simp at ha)
  | sh :: r, σ, H, Q, hz, h => by
    show tTup (tInts sh) σ H fun v H1 => tTups r σ H1 fun vs H2 => Q (v :: vs) H2
    refine tInts_ok sh σ H _ ⟨by rw [List.length_map]; exact hz sh (List.mem_cons_self ..), fun p np => ?_⟩
    refine tTups_ok r σ _ _ (fun s hs => hz s (List.mem_cons_of_mem _ hs)) fun H' as s1 hl hat => ?_
    have s0 : Same H (upd H p (.tup (sh.map V.int))) := same_upd np
    refine h H' (p :: as) (s0.trans s1) (by rw [List.length_cons, List.length_cons, hl]) fun i a s ha hs => ?_
    cases i with
    | zero =>
      obtain rfl := Option.some.inj ha
      obtain rfl := Option.some.inj hs
      exact ⟨s1 _ _ upd_same, np⟩
    | succ i =>
      have z := hat i a s ha hs
      exact ⟨z.1, s0.free z.2⟩
def shapesL : List (List Int) := [[], [1], [2], [5], [0], [2, 3], [3, 0], [0, 4], [2, 1, 2], [1, 1, 1, 1], [2, 2, 0, 3], [12]]
theorem shapes_good : ∀ sh ∈ shapesL, sh.length ≤ 4 ∧ (∀ s ∈ sh, 0 ≤ s ∧ s ≤ 400) ∧ prodI (posl sh) ≤ 400 ∧ 0 ≤ prodI sh ∧ prodI sh ≤ 12 := by decide
def spLike (K : PySem.W.Frag) : Sp := fun vs H Q _ => ∃ (a b : Addr) (d : PyData), vs = [.ref a, .ref b] ∧ Dp K H (.ref a) d ∧ Dp K H (.ref b) d ∧ d.showable = true ∧ d.hasDict = false ∧ d.depth ≤ 50 ∧ d.shown.length ≤ sizeLine ∧ Q (.bl true) H
def spOf : Sp := fun vs H Q _ => ∃ (m c g a : Addr) (N : Int) (xs : List V), vs = [.ref m, .ref a] ∧ H a = some (.lst xs) ∧ a ≠ g ∧ 0 < xs.length ∧ xs.length ≤ 1000 ∧ Dr m c g N H ∧ N < 100000 ∧ ∀ H' x, x ∈ xs → Dr m c g (N + 1) H' → Kp m g H H' → Q x H'
def spInteger : Sp := fun vs H Q _ => ∃ (m c g : Addr) (N : Int), vs = [.ref m] ∧ Dr m c g N H ∧ N < 90000 ∧ ∀ H' i, i.natAbs < 10 ^ 31 → Dr m c g (N + 4) H' → Kp m g H H' → Q (.int i) H'
def spWide (K : PySem.W.Frag) : Sp := fun vs H Q _ => ∃ (m c g : Addr) (N : Int), vs = [.ref m] ∧ Dr m c g N H ∧ N < 80000 ∧
  ∀ H' p sh its, Arr K H' p sh its → GoodA sh its → (∀ n ∈ its, n.natAbs < 10 ^ 31) → Dr m c g (N + 60) H' → Kp m g H H' → Q (.ref p) H'
section
variable {P : Program} {w : World} {K : PySem.W.Frag} {mg : Str → Option Value} {base : Heap} {C fI W : Addr}
theorem sc53 : FnScope ["_law_script", "_law_m", "_law_cell"] ["_law_script"] (defScope (top 53)) := ⟨rfl, rfl, rfl, by decide +kernel, rfl, by decide +kernel, by decide +kernel⟩
theorem pm53 (T : Txt P w K mg C fI W) : Pm P w K mg base CX0 2 "_law_begun" (spBegun K) := T.d53.pm fun f fd F => by
  refine F.ok sc53 (fun vs H Q E h => ?_) (fun cdv A outer s H vs Q E hr h => ?_)
  · obtain ⟨a, ns, rfl, _⟩ := h
    rfl
  · obtain ⟨a, ns, rfl, hs, hl, k⟩ := h
    have hu := hu_of hr
    refine ⟨_, pss_cons (ps_set (i := 1) sc53.nd rfl (Or.inl rfl) (pe_disp (pps_cons pe_str (pe_f (pm51 T) hr pass0 (pa_cons (pv 0) pa_nil)) (pps_cons pe_str (pe_lst pa_nil) (pps_cons pe_str pe_int pps_nil))) (by rfl) (by rfl) (fun z => by cases z) (by decide)))
      (pss_cons (ps_dput hu (pv 1) pe_str (pe_lc (own := [("_law_cell", 2)]) (g := gName 2) (tt := tYes) rfl sc53.nd (pi_list (pv 0)) (blkOk_by (own := [("_law_cell", 2)]) (N := ["_law_script", "_law_m", "_law_cell"]) (sc := defScope (top 53)) (by decide +kernel))
        (fun _ _ _ _ _ => pg_name (i := 2) sc53.nd rfl (Or.inl rfl)) (fun _ _ _ _ _ => pts_nil) (fun _ _ _ _ _ => pe_ifExp (pt_cmpR op_ge (pv 2) (pe_op op_pow pe_int pe_int) (nomark _)) (pv 2) pe_int)) rfl)
      (pss_one (ps_ret (pv 1)))), ?_⟩
    intro m nm
    have s0 : Same H (upd H m (.dK [])) := same_upd nm
    refine ⟨_, rfl, a, ns, rfl, s0.seq hs, fun H1 c cs s1 nc hc hC => ?_⟩
    refine ⟨by show 0 ≤ sizeLine; decide, fun l nl' => ?_⟩
    have s2 : Same H1 (upd H1 l (.lst [])) := same_upd nl'
    have hm2 : (upd H1 l (.lst [])) m = some (.dK []) := s2 _ _ (s1 _ _ upd_same)
    refine ⟨hm2, drk c l 0, rfl, by show 3 ≤ 15; decide, ?_⟩
    rw [merge_drk]
    have nmc : m ≠ c := ne_of_none upd_same nc
    have nml : m ≠ l := ne_of_none (s1 _ _ upd_same) nl'
    have ncl : c ≠ l := ne_of_none hc nl'
    have hH1 : Same H H1 := s0.trans s1
    have nHl : H l = none := hH1.free nl'
    have nHc : H c = none := s0.free nc
    obtain ⟨H3, eH3⟩ : ∃ H3, H3 = upd (upd H1 l (.lst [])) m (.dK (drk c l 0)) := ⟨_, rfl⟩
    have s3 : Same H H3 := fun b o e => by
      rw [eH3, upd_ne (ne_of_none e nm), upd_ne (ne_of_none e nHl)]
      exact hH1 b o e
    have hm3 : H3 m = some (.dK (drk c l 0)) := by rw [eH3]; exact upd_same
    have hc3 : H3 c = some (.lst (cs.map V.int)) := by rw [eH3, upd_ne nmc.symm, upd_ne ncl]; exact hc
    rw [← eH3]
    refine ⟨_, rfl, a, rfl, ⟨_, s3.seq hs⟩, fun D nD => lc_list (K := K) (a := a) (xs := ns.map V.int) (fun i H4 => Same H3 H4 ∧ ∃ gs : List Int, H4 D = some (.lst (gs.map V.int)) ∧ gs.length = i) ⟨same_upd nD, [], upd_same, rfl⟩ (fun i H4 _ ⟨s4, _⟩ => (s3.trans s4).seq hs) ?_ ?_⟩
    · rintro i y H4 hi ⟨s4, gs, hD, hgl⟩
      obtain ⟨z, hz, rfl⟩ := map_get hi
      have hi2 : i < ns.length := (List.getElem?_eq_some_iff.mp hz).1
      have size : (gs.map V.int).length < sizeLine := by rw [List.length_map, hgl]; exact Nat.lt_of_lt_of_le (Nat.lt_of_lt_of_le hi2 hl) (by decide)
      refine ⟨rfl, _, rfl, _, _, rfl, rfl, ⟨by decide, by decide, by decide⟩, _, _, rfl, rfl, _, rfl, ?_⟩
      refine ite2 (fun _ => ?_) (fun _ => ?_)
      · exact ⟨_, rfl, _, hD, size, same_updR s4 nD, gs ++ [z], by rw [upd_same, List.map_append]; rfl, by rw [List.length_append, hgl]; rfl⟩
      · exact ⟨_, hD, size, same_updR s4 nD, gs ++ [0], by rw [upd_same, List.map_append]; rfl, by rw [List.length_append, hgl]; rfl⟩
    · rintro H4 ⟨s4, gs, hD, hgl⟩
      have hm4 := s4 _ _ hm3
      have hc4 := s4 _ _ hc3
      obtain ⟨H5, eH5⟩ : ∃ H5, H5 = upd H4 m (.dK (drk c D 0)) := ⟨_, rfl⟩
      have dp : DPut H4 m (kV keyG) (.ref D) H5 := by
        rw [eH5, ← put_great c l D 0]
        exact DPut.k (k := keyG) hm4 (by show 3 < sizeLine; decide)
      have nmD : m ≠ D := ne_of_none hm3 nD
      have ncD : c ≠ D := ne_of_none hc3 nD
      refine ⟨_, rfl, m, H5, rfl, dp, _, rfl, k H5 m c D (fun b o e => ?_) nm (s3.free nD) ⟨0, cs, gs, Int.le_refl _, Int.le_refl _, ?_, ?_, hC, ?_, ?_, ncD⟩⟩
      · rw [eH5, upd_ne (ne_of_none e nm)]
        exact s4 _ _ (s3 b o e)
      · rw [eH5]; exact upd_same
      · rw [eH5, upd_ne nmc.symm]; exact hc4
      · rw [eH5, upd_ne nmD.symm]; exact hD
      · rw [hgl, List.length_map]; exact hl
theorem sc54 : FnScope ["_law_got", "_law_due"] ["_law_got", "_law_due"] (defScope (top 54)) := ⟨rfl, rfl, rfl, by decide +kernel, rfl, by decide +kernel, by decide +kernel⟩
theorem pm54 (T : Txt P w K mg C fI W) : PmG P w K mg base 1 "_law_like" (spLike K) := T.d54.pmG fun f fd F => by
  refine okG F sc54 (fun vs H Q E h => ?_) (fun cdv A outer s H vs Q hg hr h => ?_)
  · obtain ⟨a, b, d, rfl, _⟩ := h
    rfl
  · obtain ⟨a, b, d, rfl, h1, h2, q1, q2, q3, q4, k⟩ := h
    refine ⟨_, pss_one (ps_ret (pe_cmpR op_eq (pe_callB (call_reprD (guards_deeper _ hg) hr.units) (by rfl) T.nRepr (by decide +kernel) (pa_cons (pv 0) pa_nil)) (pe_callB (call_reprD (guards_deeper _ hg) hr.units) (by rfl) T.nRepr (by decide +kernel) (pa_cons (pv 1) pa_nil)) (nomark _))), ?_⟩
    refine ⟨_, rfl, a, d, rfl, h1, q1, q2, q3, q4, _, rfl, b, d, rfl, h2, q1, q2, q3, q4, rfl, ?_⟩
    have e : decide (V.str d.shown = V.str d.shown) = true := decide_eq_true rfl
    show Q (.bl (decide (V.str d.shown = V.str d.shown))) H
    rw [e]
    exact k
theorem sc55 : FnScope ["_law_m", "_law_some"] ["_law_m", "_law_some"] (defScope (top 55)) := ⟨rfl, rfl, rfl, by decide +kernel, rfl, by decide +kernel, by decide +kernel⟩
theorem pm55 (T : Txt P w K mg C fI W) : Pm P w K mg base CX0 3 "_law_of" spOf := T.d55.pm fun f fd F => by
  refine F.ok sc55 (fun vs H Q E h => ?_) (fun cdv A outer s H vs Q E hr h => ?_)
  · obtain ⟨m, c, g, a, N, xs, rfl, _⟩ := h
    rfl
  · obtain ⟨m, c, g, a, N, xs, rfl, ha, nag, h0, h1, D, hN, k⟩ := h
    refine ⟨_, pss_one (ps_ret (pe_ix ix_list (pv 1) (pe_f (pm52 T) hr pass0 (pa_cons (pv 0) (pa_cons (pe_callB call_len (by rfl) T.nLen PySem.boot_len (pa_cons (pv 1) pa_nil)) pa_nil))) (fun _ _ => rfl))), ?_⟩
    have nam : a ≠ m := by
      obtain ⟨n, cs, gs, a1, a2, a3, _⟩ := D.ex
      exact ne_of ha a3 (by intro z; cases z)
    refine ⟨_, rfl, _, rfl, _, rfl, _, _, rfl, .inl ⟨_, SqL.of ha, rfl⟩, m, c, g, N, _, rfl, by omega, by omega, D, hN, fun H' r r0 r1 D' k' => ?_⟩
    obtain ⟨j, rfl⟩ := Int.eq_ofNat_of_zero_le r0
    have hj : j < xs.length := by omega
    have hx : xs[j]? = some xs[j] := List.getElem?_eq_getElem hj
    exact ⟨a, xs, _, _, rfl, rfl, SqL.of (k' a _ ha nam nag), at_of (j := j) rfl hx, k H' _ (List.getElem_mem hj) D' k'⟩
theorem sc56 : FnScope ["_law_shape", "_law_found", "_law_side"] ["_law_shape"] (defScope (top 56)) := ⟨rfl, rfl, rfl, by decide +kernel, rfl, by decide +kernel, by decide +kernel⟩
theorem pm56 (T : Txt P w K mg C fI W) : Pm P w K mg base CX0 1 "_law_many" (spProdT K) := T.d56.pm fun f fd F => by
  refine F.ok sc56 (fun vs H Q E h => ?_) (fun cdv A outer s H vs Q E hr h => ?_)
  · obtain ⟨a, ns, rfl, _⟩ := h
    rfl
  · obtain ⟨a, ns, rfl, hs, hl, k⟩ := h
    refine ⟨_, pss_cons (ps_set (i := 1) sc56.nd rfl (Or.inl rfl) pe_int) (pss_cons (ps_for PassesOwn.never rfl (pi_tup (pv 0)) (pg_name (i := 2) sc56.nd rfl (Or.inl rfl))
      (pss_one (ps_set (i := 1) sc56.nd rfl (Or.inl rfl) (pe_op op_mul (pv 1) (pv 2))))) (pss_one (ps_ret (pv 1)))), ?_⟩
    refine ⟨_, rfl, a, rfl, ⟨_, hs⟩, for_tup (K := K) (a := a) (xs := ns.map V.int) (fun i σ H2 => (∃ v, σ = [some (.ref a), some (.int (prodI (ns.take i))), v]) ∧ H2 = H) ⟨⟨none, rfl⟩, rfl⟩ (fun i σ H2 _ ⟨_, e⟩ => by rw [e]; exact hs) ?_ ?_⟩
    · rintro i y σ H2 hi ⟨⟨v, rfl⟩, rfl⟩
      obtain ⟨z, hz, rfl⟩ := map_get hi
      have hlt : i ≤ ns.length := Nat.le_of_lt (List.getElem?_eq_some_iff.mp hz).1
      refine ⟨_, rfl, _, rfl, _, _, rfl, rfl, .inl (hl i hlt), ?_⟩
      exact ⟨⟨some (.int z), by rw [prod_take hz]; rfl⟩, rfl⟩
    · rintro σ H2 ⟨⟨v, rfl⟩, rfl⟩
      rw [List.take_of_length_le (by rw [List.length_map]; exact Nat.le_refl _)]
      exact ⟨_, rfl, k⟩
theorem sc57 : FnScope ["_law_m", "_law_pick", "_law_number"] ["_law_m"] (defScope (top 57)) := ⟨rfl, rfl, rfl, by decide +kernel, rfl, by decide +kernel, by decide +kernel⟩
theorem pm57 (T : Txt P w K mg C fI W) : Pm P w K mg base CX0 4 "_law_integer" spInteger := T.d57.pm fun f fd F => by
  refine F.ok sc57 (fun vs H Q E h => ?_) (fun cdv A outer s H vs Q E hr h => ?_)
  · obtain ⟨m, c, g, N, rfl, _⟩ := h
    rfl
  · obtain ⟨m, c, g, N, rfl, D, hN, k⟩ := h
    refine ⟨_, pss_cons (ps_set (i := 1) sc57.nd rfl (Or.inl rfl) (pe_f (pm52 T) (hr.mono (by decide)) pass0 (pa_cons (pv 0) (pa_cons pe_int pa_nil))))
      (pss_cons (ps_if (pt_cmpR op_lt (pv 1) pe_int (nomark _)) (pss_one (ps_ret (pe_op op_sub (pe_f (pm52 T) (hr.mono (by decide)) pass0 (pa_cons (pv 0) (pa_cons pe_int pa_nil))) pe_int))) pss_nil)
      (pss_cons (ps_set (i := 2) sc57.nd rfl (Or.inl rfl) (pe_f (pm55 T) hr pass0 (pa_cons (pv 0) (pa_cons (pe_lst (pa_cons pe_int (pa_cons (pe_op op_pow pe_int pe_int) (pa_cons (pe_op op_pow pe_int pe_int) (pa_cons (pe_op op_sub (pe_op op_pow pe_int pe_int) pe_int)
        (pa_cons (pe_f (pm52 T) (hr.mono (by decide)) pass0 (pa_cons (pv 0) (pa_cons (pe_op op_pow pe_int pe_int) pa_nil))) (pa_cons (pe_op op_add (pe_op op_pow pe_int pe_int) (pe_f (pm52 T) (hr.mono (by decide)) pass0 (pa_cons (pv 0) (pa_cons pe_int pa_nil)))) pa_nil))))))) pa_nil))))
      (pss_one (ps_ret (pe_ifExp (pt_cmpR op_lt (pv 1) pe_int (nomark _)) (pv 2) (pe_op op_sub pe_int (pv 2))))))), ?_⟩
    refine ⟨_, rfl, m, c, g, N, 8, rfl, by decide, by decide, D, by omega, fun H1 r1 a1 b1 D1 k1 => ?_⟩
    refine ⟨_, rfl, _, _, rfl, rfl, _, rfl, ite2 (fun _ => ?_) (fun _ => ?_)⟩
    · refine ⟨_, rfl, m, c, g, N + 1, 9, rfl, by decide, by decide, D1, by omega, fun H2 r2 a2 b2 D2 k2 => ⟨_, _, rfl, rfl, k H2 (r2 - 4) ?_ (D2.mono (by omega)) (k1.trans k2)⟩⟩
      have : (r2 - 4).natAbs ≤ 9 := by omega
      exact Nat.lt_of_le_of_lt this (by decide)
    · refine ⟨_, rfl, _, _, rfl, rfl, ⟨by decide, by decide, by decide⟩, _, _, rfl, rfl, ⟨by decide, by decide, by decide⟩, _, _, rfl, rfl, ⟨by decide, by decide, by decide⟩, _, _, rfl, rfl, ?_⟩
      refine ⟨_, rfl, _, _, rfl, rfl, ⟨by decide, by decide, by decide⟩, m, c, g, N + 1, 1000000, rfl, by decide, by decide, D1, by omega, fun H2 r2 a2 b2 D2 k2 => ?_⟩
      refine ⟨_, _, rfl, rfl, ⟨by decide, by decide, by decide⟩, _, rfl, m, c, g, _, 100, rfl, by decide, by decide, D2, by omega, fun H3 r3 a3 b3 D3 k3 => ?_⟩
      refine ⟨_, _, rfl, rfl, by show 6 ≤ sizeLine; decide, fun l nl' => ?_⟩
      obtain ⟨n1, n2, n3⟩ := D3.new nl'
      refine ⟨m, c, g, l, _, _, rfl, upd_same, n3, by show 0 < 6; decide, by show 6 ≤ 1000; decide, D3.same (same_upd nl'), by omega, fun H4 x hx D4 k4 => ?_⟩
      have K4 : Kp m g H H4 := ((k1.trans k2).trans k3).trans ((Kp.of (same_upd nl')).trans k4)
      have big : ∃ i : Int, x = .int i ∧ i.natAbs < 10 ^ 31 := by
        have small : ∀ i : Int, 0 ≤ i → i ≤ 2000000000 → i.natAbs < 10 ^ 31 := fun i h0 h1 => Nat.lt_of_le_of_lt (show i.natAbs ≤ 2000000000 by omega) (by decide)
        simp only [List.mem_cons, List.not_mem_nil, or_false] at hx
        rcases hx with h | h | h | h | h | h
        · exact ⟨10, h, by decide⟩
        · exact ⟨_, h, by decide⟩
        · exact ⟨_, h, by decide⟩
        · exact ⟨_, h, by decide⟩
        · exact ⟨r2, h, small _ a2 (by omega)⟩
        · have e9 : (10 : Int) ^ (9 : Int).toNat = 1000000000 := by decide
          exact ⟨10 ^ (9 : Int).toNat + r3, h, small _ (by omega) (by omega)⟩
      obtain ⟨i, rfl, hi⟩ := big
      have D5 := D4.mono (N' := N + 4) (by omega)
      refine ⟨_, rfl, _, _, rfl, rfl, _, rfl, ite2 (fun _ => ⟨_, rfl, k H4 i hi D5 K4⟩) (fun _ => ⟨_, rfl, _, _, rfl, rfl, k H4 (0 - i) ?_ D5 K4⟩)⟩
      have : (0 - i).natAbs = i.natAbs := by omega
      rw [this]
      exact hi
end
end K67
/-! Drawn arrays; the texts by the law's own telling. -/
namespace K67
open PySem PySem.Spec PyProof.Rows L2 TL
/-! ### a text, word by word -/
def app (a y : Str) : Str := a ++ sp ++ y
theorem app_assoc (a : Str) (s y : Str) (h : s = sp ++ y) : a ++ s = app a y := by
  rw [h]
  refine ext_tl ?_
  unfold app
  rw [tl_append, tl_append, tl_append, tl_append, List.append_assoc]
theorem colon_eq : ((" :" : String) : Str) = sp ++ wColon := by decide +kernel
theorem shut_eq : ((" ]" : String) : Str) = sp ++ wShut := by decide +kernel
/-- the text so far -/
def tellA (x : Str) (ns : List Int) : Str := (ns.map wI).foldl app x
theorem tellA_snoc {x : Str} {ns : List Int} {i : Nat} {z : Int} (h : ns[i]? = some z) : tellA x (ns.take (i + 1)) = app (tellA x (ns.take i)) (wI z) := by
  unfold tellA
  rw [take_snoc h, List.map_append, List.foldl_append]
  rfl
theorem aText_told (sh its : List Int) : aText sh its = app (tellA (app (tellA wOpen sh) wColon) its) wShut := by
  unfold aText aWords tellA
  rw [join_fold]
  show List.foldl app wOpen _ = _
  rw [List.foldl_append, List.foldl_cons, List.foldl_append]
  rfl
theorem app_len (a y : Str) : (app a y).length = a.length + 1 + y.length := by
  unfold app
  rw [len_app, len_app]
  have h : sp.length = 1 := by decide +kernel
  omega
theorem tellA_len (x : Str) (ns : List Int) (h : ∀ n ∈ ns, n.natAbs < 10 ^ 31) : (tellA x ns).length ≤ x.length + 33 * ns.length := by
  induction ns generalizing x with
  | nil => exact Nat.le_add_right _ _
  | cons n r ih =>
    have h1 := ih (app x (wI n)) fun m hm => h m (List.mem_cons_of_mem _ hm)
    have h2 := wI_len (h n (List.mem_cons_self ..))
    have h3 := app_len x (wI n)
    have e : tellA x (n :: r) = tellA (app x (wI n)) r := rfl
    rw [e, List.length_cons]
    omega
theorem take_small {ns : List Int} (h : ∀ n ∈ ns, n.natAbs < 10 ^ 31) (i : Nat) : ∀ n ∈ ns.take i, n.natAbs < 10 ^ 31 := fun n hn => h n (List.mem_of_mem_take hn)
def spDueA (K : PySem.W.Frag) : Sp := fun vs H Q _ => ∃ (p : Addr) (sh its : List Int), vs = [.ref p] ∧ Arr K H p sh its ∧ GoodA sh its ∧ (∀ n ∈ its, n.natAbs < 10 ^ 31) ∧ Q (.str (aText sh its)) H
def spDueC (K : PySem.W.Frag) : Sp := fun vs H Q _ => ∃ (p : Addr) (cs : List (Str × Bool)), vs = [.ref p] ∧ Cus K H p cs ∧ GoodC cs ∧ ∀ H', Same H H' → Q (.str (cText cs)) H'
theorem sl_small {n : Nat} (h : n ≤ 100000) : n ≤ sizeLine := Nat.le_trans h (by decide)
/-- the list of shapes, made -/
def tShapes : TE := fun σ H Q => ∀ (H1 : Hp) (as : List Addr) (l : Addr), Same H H1 → as.length = shapesL.length → (∀ (i : Nat) a sh, as[i]? = some a → shapesL[i]? = some sh → H1 a = some (.tup (sh.map V.int)) ∧ H a = none) → H1 l = none → Q (.ref l) (upd H1 l (.lst (as.map V.ref)))
theorem shapes_imp (σ : L2.St) (H : Hp) (Q : VK) (h : tShapes σ H Q) : tLst (tTups shapesL) σ H Q :=
  tTups_ok shapesL σ H _ (fun sh hs => Nat.le_trans (shapes_good sh hs).1 (by decide)) fun H1 as s1 hl hat => ⟨by rw [List.length_map, hl]; decide, fun l nl' => h H1 as l s1 hl hat nl'⟩
section
variable {P : Program} {w : World} {K : PySem.W.Frag} {mg : Str → Option Value} {base : Heap} {C fI W : Addr}
theorem sc58 : FnScope ["_law_m", "_law_shapes_so", "_law_shape", "_law_k"] ["_law_m"] (defScope (top 58)) := ⟨rfl, rfl, rfl, by decide +kernel, rfl, by decide +kernel, by decide +kernel⟩
theorem pm58 (T : Txt P w K mg C fI W) : Pm P w K mg base CX0 5 "_law_wide_array" (spWide K) := T.d58.pm fun f fd F => by
  refine F.ok sc58 (fun vs H Q E h => ?_) (fun cdv A outer s H vs Q E hr h => ?_)
  · obtain ⟨m, c, g, N, rfl, _⟩ := h
    rfl
  · obtain ⟨m, c, g, N, rfl, D, hN, k⟩ := h
    refine ⟨_, pss_cons (ps_set (i := 1) sc58.nd rfl (Or.inl rfl) (pe_imp (t' := tShapes) (pe_lst (pa_cons (pe_tup pa_nil) (pa_cons (pe_tup (pa_cons pe_int pa_nil)) (pa_cons (pe_tup (pa_cons pe_int pa_nil)) (pa_cons (pe_tup (pa_cons pe_int pa_nil)) (pa_cons (pe_tup (pa_cons pe_int pa_nil))
        (pa_cons (pe_tup (pa_cons pe_int (pa_cons pe_int pa_nil))) (pa_cons (pe_tup (pa_cons pe_int (pa_cons pe_int pa_nil))) (pa_cons (pe_tup (pa_cons pe_int (pa_cons pe_int pa_nil))) (pa_cons (pe_tup (pa_cons pe_int (pa_cons pe_int (pa_cons pe_int pa_nil))))
        (pa_cons (pe_tup (pa_cons pe_int (pa_cons pe_int (pa_cons pe_int (pa_cons pe_int pa_nil))))) (pa_cons (pe_tup (pa_cons pe_int (pa_cons pe_int (pa_cons pe_int (pa_cons pe_int pa_nil))))) (pa_cons (pe_tup (pa_cons pe_int pa_nil)) pa_nil))))))))))))) (fun σ H Q h => shapes_imp σ H Q h)))
      (pss_cons (ps_set (i := 2) sc58.nd rfl (Or.inl rfl) (pe_f (pm55 T) (hr.mono (by decide)) pass0 (pa_cons (pv 0) (pa_cons (pv 1) pa_nil))))
      (pss_one (ps_ret (pe_tup (pa_cons (pv 2) (pa_cons (pe_callTy call_tuple_of (by rfl) T.nTup (by decide +kernel) (pa_cons (pe_lc (own := [("_law_k", 3)]) (g := gName 3) (tt := tYes) rfl sc58.nd (pi_range1 rfl T.nRange (pa_cons (pe_f (pm56 T) (hr.mono (by decide)) pass0 (pa_cons (pv 2) pa_nil)) pa_nil))
        (blkOk_by (own := [("_law_k", 3)]) (N := ["_law_m", "_law_shapes_so", "_law_shape", "_law_k"]) (sc := defScope (top 58)) (by decide +kernel)) (fun _ _ _ _ _ => pg_name (i := 3) sc58.nd rfl (Or.inl rfl)) (fun _ _ _ _ _ => pts_nil) (fun _ _ _ _ _ => pe_f (pm57 T) hr pass0 (pa_cons (pv 0) pa_nil))) pa_nil)) pa_nil)))))), ?_⟩
    intro H1 as l s1 hl hat nl'
    have s2 : Same H (upd H1 l (.lst (as.map V.ref))) := same_updR s1 (s1.free nl')
    have D2 := D.same s2
    have nlg : l ≠ g := fun z => by
      obtain ⟨n, cs, gs, a1, a2, a3, a4, a5, a6, a7, a8⟩ := D.ex
      have := s1 _ _ a6
      rw [← z, nl'] at this
      cases this
    refine ⟨_, rfl, _, rfl, m, c, g, l, N, _, rfl, upd_same, nlg, by rw [List.length_map, hl]; decide, by rw [List.length_map, hl]; decide, D2, by omega, fun H3 x hx D3 k3 => ?_⟩
    obtain ⟨a, ha, rfl⟩ := List.mem_map.mp hx
    obtain ⟨i, hi⟩ := List.mem_iff_getElem?.mp ha
    have hi2 : i < shapesL.length := by rw [← hl]; exact (List.getElem?_eq_some_iff.mp hi).1
    obtain ⟨sh, hsh⟩ : ∃ sh, shapesL[i]? = some sh := ⟨_, List.getElem?_eq_getElem hi2⟩
    obtain ⟨g1, g2, g3, g4, g5⟩ := shapes_good sh (List.mem_of_getElem? hsh)
    have hsT : SqT K H3 a (sh.map V.int) := by
      have z := (hat i a sh hi hsh).1
      refine D2.tup k3 (SqT.of ?_)
      rw [upd_ne (ne_of_none z nl')]
      exact z
    have K3 : Kp m g H H3 := (Kp.of s2).trans k3
    refine ⟨_, rfl, _, rfl, a, sh, rfl, hsT, low_of g1 g2, ?_⟩
    refine ⟨_, rfl, by omega, by omega, fun Dn nD => ?_⟩
    obtain ⟨q1, q2, q3⟩ := D3.new nD
    have nHD : H Dn = none := K3.free nD q1 q3
    refine lc_range (lo := 0) (n := (prodI sh).toNat) (fun i H4 => ∃ is : List Int, H4 Dn = some (.lst (is.map V.int)) ∧ is.length = i ∧ (∀ z ∈ is, z.natAbs < 10 ^ 31) ∧ Dr m c g (N + 1 + 4 * (i : Int)) H4 ∧ Kp m g H H4 ∧ Kp m g H3 H4)
      ⟨[], upd_same, rfl, by simp, (D3.mono (by omega)).same (same_upd nD), K3.updR nHD, (Kp.refl m g H3).updR nD⟩ ?_ ?_
    · rintro i H4 hi ⟨is, hD, hlen, hsm, D4, k4, k34⟩
      refine ⟨rfl, _, rfl, m, c, g, _, rfl, D4, by omega, fun H5 z hz D5 k5 => ?_⟩
      obtain ⟨n, cs, gs, b1, b2, b3, b4, b5, b6, b7, b8⟩ := D5.ex
      have hD5 := k5 Dn _ hD q1 q3
      refine ⟨_, hD5, ?_, is ++ [z], ?_, ?_, ?_, ?_, ?_, ?_⟩
      · rw [List.length_map, hlen]
        exact Nat.lt_of_lt_of_le hi (Nat.le_trans (show (prodI sh).toNat ≤ 12 by omega) (by decide))
      · rw [upd_same, List.map_append]
        rfl
      · rw [List.length_append, hlen]
        rfl
      · intro y hy
        rcases List.mem_append.mp hy with h | h
        · exact hsm y h
        · rw [List.mem_singleton.mp h]; exact hz
      · have e : N + 1 + 4 * ((i + 1 : Nat) : Int) = N + 1 + 4 * (i : Int) + 4 := by omega
        rw [e]
        exact D5.upd q1 q2 q3
      · exact (k4.trans k5).updR nHD
      · exact (k34.trans k5).updR nD
    · rintro H4 ⟨is, hD, hlen, hsm, D4, k4, k34⟩
      refine ⟨Dn, _, rfl, .inl ⟨SqL.of hD, fun t nt => ?_⟩⟩
      refine ⟨by show 2 ≤ sizeLine; decide, fun p np => ?_⟩
      have nHt : H t = none := by
        obtain ⟨r1, r2, r3⟩ := D4.new nt
        exact k4.free nt r1 r3
      have D5 := D4.same (same_upd (o := .tup (is.map V.int)) nt)
      have nHp : H p = none := by
        obtain ⟨r1, r2, r3⟩ := D5.new np
        exact (k4.updR nHt).free np r1 r3
      have ntp : t ≠ p := fun z => by rw [← z, upd_same] at np; cases np
      have hsf : SqT K H4 a (sh.map V.int) := D3.tup k34 hsT
      refine k _ p sh is ⟨a, t, SqT.of upd_same, seqT ((same_upd nt).trans (same_upd np)) hsf, SqT.of (by rw [upd_ne ntp]; exact upd_same)⟩ ⟨g1, g2, g3, ?_, ?_⟩ hsm ?_ ((k4.updR nHt).updR nHp)
      · rw [hlen]; omega
      · rw [hlen]; omega
      · exact (D5.same (same_upd np)).mono (by omega)
theorem sc59 : FnScope ["_law_array", "_law_found", "_law_side", "_law_item"] ["_law_array"] (defScope (top 59)) := ⟨rfl, rfl, rfl, by decide +kernel, rfl, by decide +kernel, by decide +kernel⟩
theorem pm59 (T : Txt P w K mg C fI W) : Pm P w K mg base CX0 1 "_law_array_due" (spDueA K) := T.d59.pm fun f fd F => by
  refine F.ok sc59 (fun vs H Q E h => ?_) (fun cdv A outer s H vs Q E hr h => ?_)
  · obtain ⟨p, sh, its, rfl, _⟩ := h
    rfl
  · obtain ⟨p, sh, its, rfl, ⟨a, b, hp, ha, hb⟩, G, hn, k⟩ := h
    refine ⟨_, pss_cons (ps_set (i := 1) sc59.nd rfl (Or.inl rfl) pe_str)
      (pss_cons (ps_for PassesOwn.never rfl (pi_tup (pe_ix ix_tup (pv 0) pe_int (fun _ _ => rfl))) (pg_name (i := 2) sc59.nd rfl (Or.inl rfl))
        (pss_one (ps_set (i := 1) sc59.nd rfl (Or.inl rfl) (pe_op op_add_str (pe_op op_add_str (pv 1) pe_str) (pe_callTy call_str_int (by rfl) T.nStr (by decide +kernel) (pa_cons (pv 2) pa_nil))))))
      (pss_cons (ps_set (i := 1) sc59.nd rfl (Or.inl rfl) (pe_op op_add_str (pv 1) pe_str))
      (pss_cons (ps_for PassesOwn.never rfl (pi_tup (pe_ix ix_tup (pv 0) pe_int (fun _ _ => rfl))) (pg_name (i := 3) sc59.nd rfl (Or.inl rfl))
        (pss_one (ps_set (i := 1) sc59.nd rfl (Or.inl rfl) (pe_op op_add_str (pe_op op_add_str (pv 1) pe_str) (pe_callTy call_str_int (by rfl) T.nStr (by decide +kernel) (pa_cons (pv 3) pa_nil))))))
      (pss_one (ps_ret (pe_op op_add_str (pv 1) pe_str)))))), ?_⟩
    have hs := side_small G
    have l1 := G.len
    have l2 := G.few
    have lo : wOpen.length = 1 := by decide +kernel
    have lc : wColon.length = 1 := by decide +kernel
    have lsp : sp.length = 1 := by decide +kernel
    have tel : ∀ i, (tellA wOpen (sh.take i)).length ≤ 200 := fun i => by
      have h1 := tellA_len wOpen (sh.take i) (take_small hs i)
      rw [List.length_take] at h1
      omega
    have log : ∀ z : Int, z.natAbs < 10 ^ 31 → z.natAbs.log2 < 1920 := fun z hz => Nat.lt_of_lt_of_le (log2_lt (k := 104) (Nat.lt_of_lt_of_le hz (by decide)) (by decide)) (by decide)
    refine ⟨_, rfl, p, _, _, _, rfl, rfl, hp, at_of (j := 0) rfl rfl, a, rfl, ⟨_, ha⟩, for_tup (K := K) (a := a) (xs := sh.map V.int) (fun i σ H2 => (∃ v2 v3, σ = [some (.ref p), some (.str (tellA wOpen (sh.take i))), v2, v3]) ∧ H2 = H) ⟨⟨none, none, rfl⟩, rfl⟩ (fun i σ H2 _ ⟨_, e⟩ => by rw [e]; exact ha) ?_ ?_⟩
    · rintro i y σ H2 hi ⟨⟨v2, v3, rfl⟩, rfl⟩
      obtain ⟨z, hz, rfl⟩ := map_get hi
      have hzs := hs z (List.mem_of_getElem? hz)
      have h1 := tel i
      have h2 := wI_len hzs
      refine ⟨_, rfl, _, _, rfl, rfl, sl_small (show _ + sp.length ≤ _ by omega), _, rfl, z, rfl, log z hzs, _, _, rfl, rfl, sl_small (show (tellA wOpen (sh.take i) ++ sp).length + (wI z).length ≤ _ by rw [len_app]; omega), ?_⟩
      exact ⟨⟨_, _, by rw [tellA_snoc hz]; rfl⟩, rfl⟩
    · rintro σ H2 ⟨⟨v2, v3, rfl⟩, rfl⟩
      have tk1 : sh.take (sh.map V.int).length = sh := List.take_of_length_le (by rw [List.length_map]; exact Nat.le_refl _)
      rw [tk1]
      have h1 := tellA_len wOpen sh hs
      refine ⟨_, rfl, _, _, rfl, rfl, sl_small (show _ + (((" :" : String) : Str)).length ≤ _ by rw [colon_eq, len_app]; omega), ?_⟩
      rw [app_assoc _ _ _ colon_eq]
      have h3 := app_len (tellA wOpen sh) wColon
      have tel2 : ∀ i, (tellA (app (tellA wOpen sh) wColon) (its.take i)).length ≤ 20000 := fun i => by
        have h1 := tellA_len (app (tellA wOpen sh) wColon) (its.take i) (take_small hn i)
        rw [List.length_take] at h1
        omega
      refine ⟨_, rfl, p, _, _, _, rfl, rfl, hp, at_of (j := 1) rfl rfl, b, rfl, ⟨_, hb⟩, for_tup (K := K) (a := b) (xs := its.map V.int) (fun i σ H3 => (∃ v2 v3, σ = [some (.ref p), some (.str (tellA (app (tellA wOpen sh) wColon) (its.take i))), v2, v3]) ∧ H3 = H2) ⟨⟨_, _, rfl⟩, rfl⟩ (fun i σ H2 _ ⟨_, e⟩ => by rw [e]; exact hb) ?_ ?_⟩
      · rintro i y σ H3 hi ⟨⟨v2, v3, rfl⟩, rfl⟩
        obtain ⟨z, hz, rfl⟩ := map_get hi
        have hzs := hn z (List.mem_of_getElem? hz)
        have h1 := tel2 i
        have h2 := wI_len hzs
        refine ⟨_, rfl, _, _, rfl, rfl, sl_small (show _ + sp.length ≤ _ by omega), _, rfl, z, rfl, log z hzs, _, _, rfl, rfl, sl_small (show (tellA (app (tellA wOpen sh) wColon) (its.take i) ++ sp).length + (wI z).length ≤ _ by rw [len_app]; omega), ?_⟩
        exact ⟨⟨_, _, by rw [tellA_snoc hz]; rfl⟩, rfl⟩
      · rintro σ H3 ⟨⟨v2, v3, rfl⟩, rfl⟩
        have tk2 : its.take (its.map V.int).length = its := List.take_of_length_le (by rw [List.length_map]; exact Nat.le_refl _)
        rw [tk2]
        have h4 := tellA_len (app (tellA wOpen sh) wColon) its hn
        have lw : wShut.length = 1 := by decide +kernel
        refine ⟨_, rfl, _, _, rfl, rfl, sl_small (show _ + (((" ]" : String) : Str)).length ≤ _ by rw [shut_eq, len_app]; omega), ?_⟩
        rw [app_assoc _ _ _ shut_eq, ← aText_told]
        exact k
end
end K67
/-! Plain data: what repr asks of it. -/
namespace K67
open PySem PySem.Spec PyProof.Rows L2 TL
structure Fine (d : PyData) (k w : Nat) : Prop where
  sh : d.showable = true
  nd : d.hasDict = false
  dp : d.depth ≤ k
  lv : d.leavesShort 40 = true
  wt : d.weight ≤ w
  ly : d.canLay0 = true
structure FineAll (ds : List PyData) (k w : Nat) : Prop where
  sh : PyData.showableAll ds = true
  nd : PyData.hasDictAll ds = false
  dp : PyData.depthAll ds ≤ k
  lv : PyData.leavesShortAll 40 ds = true
  wt : PyData.weightAll ds ≤ w
  ly : PyData.canLayAll0 ds = true
theorem FineAll.nil {k w : Nat} : FineAll [] k w := by
  constructor <;> simp [PyData.showableAll, PyData.hasDictAll, PyData.depthAll, PyData.leavesShortAll, PyData.weightAll, PyData.canLayAll0]
theorem FineAll.cons {d : PyData} {ds : List PyData} {k w v : Nat} (h : Fine d k w) (t : FineAll ds k v) : FineAll (d :: ds) k (w + 1 + v) := by
  obtain ⟨a1, a2, a3, a4, a5, a6⟩ := h
  obtain ⟨b1, b2, b3, b4, b5, b6⟩ := t
  constructor <;> simp [PyData.showableAll, PyData.hasDictAll, PyData.depthAll, PyData.leavesShortAll, PyData.weightAll, PyData.canLayAll0, a1, a2, a4, a6, b1, b2, b4, b6]
  · omega
  · omega
theorem Fine.list {ds : List PyData} {k w : Nat} (h : FineAll ds k w) : Fine (.list ds) (k + 1) w := by
  obtain ⟨b1, b2, b3, b4, b5, b6⟩ := h
  constructor <;> simp [PyData.showable, PyData.hasDict, PyData.depth, PyData.leavesShort, PyData.weight, PyData.canLay0, b1, b2, b4, b6]
  · omega
  · exact b5
theorem Fine.tup {ds : List PyData} {k w : Nat} (h : FineAll ds k w) : Fine (.tuple ds) (k + 1) w := by
  obtain ⟨b1, b2, b3, b4, b5, b6⟩ := h
  constructor <;> simp [PyData.showable, PyData.hasDict, PyData.depth, PyData.leavesShort, PyData.weight, PyData.canLay0, b1, b2, b4, b6]
  · omega
  · exact b5
theorem Fine.mono {d : PyData} {k w k' w' : Nat} (h : Fine d k w) (hk : k ≤ k') (hw : w ≤ w') : Fine d k' w' := ⟨h.sh, h.nd, Nat.le_trans h.dp hk, h.lv, Nat.le_trans h.wt hw, h.ly⟩
theorem FineAll.mono {d : List PyData} {k w k' w' : Nat} (h : FineAll d k w) (hk : k ≤ k') (hw : w ≤ w') : FineAll d k' w' := ⟨h.sh, h.nd, Nat.le_trans h.dp hk, h.lv, Nat.le_trans h.wt hw, h.ly⟩
theorem Fine.bl (b : Bool) : Fine (.bool b) 0 0 := by
  constructor <;> simp [PyData.showable, PyData.hasDict, PyData.depth, PyData.leavesShort, PyData.weight, PyData.canLay0]
theorem Fine.int {i : Int} (h : i.natAbs < 10 ^ 31) : Fine (.int i) 0 104 := by
  have hl : i.natAbs.log2 < 104 := log2_lt (k := 104) (Nat.lt_of_lt_of_le h (by decide)) (by decide)
  have hw := wI_len h
  refine ⟨?_, by simp [PyData.hasDict], by simp [PyData.depth], ?_, ?_, by simp [PyData.canLay0]⟩
  · simp only [PyData.showable, decide_eq_true_eq]
    omega
  · simp only [PyData.leavesShort, decide_eq_true_eq]
    show (wI i).length ≤ 40
    omega
  · simp only [PyData.weight]
    split <;> omega
/-- signs as they are -/
def Signs (x : Str) : Prop := ∀ c ∈ tl x, c < 0x110000
theorem Fine.str {x : Str} (h : Signs x) : Fine (.str x) 0 x.length := by
  refine ⟨by simp [PyData.showable], by simp [PyData.hasDict], by simp [PyData.depth], ?_, by simp [PyData.weight, Str.length], ?_⟩
  · simp only [PyData.leavesShort, List.all_eq_true, decide_eq_true_eq]
    exact fun c hc => Nat.lt_trans (h c hc) (by decide)
  · simp only [PyData.canLay0, PyData.strOk]
    rw [Array.all_eq_true_iff_forall_mem]
    intro c hc
    exact decide_eq_true (h c (by simpa [tl] using hc))
theorem fine_ints : ∀ ns : List Int, (∀ n ∈ ns, n.natAbs < 10 ^ 31) → FineAll (ns.map PyData.int) 0 (105 * ns.length)
  | [], _ => .nil
  | n :: r, h => (FineAll.cons (Fine.int (h n (List.mem_cons_self ..))) (fine_ints r fun m hm => h m (List.mem_cons_of_mem _ hm))).mono (Nat.le_refl _) (by rw [List.length_cons]; omega)
theorem Fine.out {d : PyData} {k w : Nat} (h : Fine d k w) (hw : w ≤ 300000) : d.shown.length ≤ sizeLine := by
  have h1 := PyData.shown_le 40 (by decide) d h.lv
  have h2 := h.wt
  have h3 : sizeLine = 16777216 := sizeLine_eq
  rw [h3]
  omega
theorem Fine.shaped {d : PyData} {k w : Nat} (h : Fine d k w) (hk : k ≤ 64) : SeqAt.shaped d = true := by
  unfold SeqAt.shaped
  rw [h.ly, decide_eq_true (Nat.le_trans h.dp hk)]
  rfl
theorem fine_a {sh its : List Int} (G : GoodA sh its) (h : ∀ n ∈ its, n.natAbs < 10 ^ 31) : Fine (aData sh its) 2 50000 := by
  have h1 := fine_ints sh (side_small G)
  have h2 := fine_ints its h
  have l1 := G.len
  have l2 := G.few
  exact (Fine.tup (.cons ((Fine.tup h1).mono (k' := 1) (w' := 420) (Nat.le_refl _) (by omega)) (.cons ((Fine.tup h2).mono (k' := 1) (w' := 42000) (Nat.le_refl _) (by omega)) .nil))).mono (by omega) (w' := 50000) (by omega : 420 + 1 + (42000 + 1 + 0) ≤ 50000)
/-! ### signs of texts -/
theorem signs_join {ws : List Str} (h : ∀ w ∈ ws, Signs w) : Signs (Str.join sp ws) := fun c hc => by
  by_cases hlt : c < 0x110000
  · exact hlt
  · exfalso
    rw [tl_join] at hc
    refine mem_joinL (c := c) ?_ ?_ hc
    · rw [tl_sp]
      intro hm
      have := List.mem_singleton.mp hm
      omega
    · intro p hp hm
      obtain ⟨w, hw, rfl⟩ := List.mem_map.mp hp
      exact hlt (h w hw c hm)
theorem signs_wI (i : Int) : Signs (wI i) := fun c hc => by
  by_cases hlt : 57 < c
  · exact absurd hc (wI_free (by omega))
  · omega
theorem signs_aWords (sh its : List Int) : ∀ w ∈ aWords sh its, Signs w := by
  intro w hw
  simp only [aWords, List.mem_cons, List.mem_append, List.mem_map, List.not_mem_nil, or_false] at hw
  rcases hw with rfl | ⟨i, _, rfl⟩ | rfl | ⟨i, _, rfl⟩ | rfl
  · unfold Signs; decide +kernel
  · exact signs_wI i
  · unfold Signs; decide +kernel
  · exact signs_wI i
  · unfold Signs; decide +kernel
theorem signs_chain : ∀ c ∈ chain, Signs c := by
  intro w hw
  simp only [chain, List.mem_cons, List.not_mem_nil, or_false] at hw
  rcases hw with rfl | rfl | rfl | rfl <;> (unfold Signs; decide +kernel)
theorem signs_cWords : ∀ {cs : List (Str × Bool)}, (∀ p ∈ cs, p.1 ∈ chain) → ∀ w ∈ cWords cs, Signs w
  | [], _, w, hw => absurd hw List.not_mem_nil
  | (c, b) :: r, h, w, hw => by
    rcases List.mem_cons.mp hw with rfl | hw
    · exact signs_chain _ (h _ (List.mem_cons_self ..))
    · rcases List.mem_cons.mp hw with rfl | hw
      · cases b <;> (unfold Signs; decide +kernel)
      · exact signs_cWords (fun p hp => h p (List.mem_cons_of_mem _ hp)) w hw
theorem fine_at {sh its : List Int} (G : GoodA sh its) (h : ∀ n ∈ its, n.natAbs < 10 ^ 31) : Fine (.str (aText sh its)) 0 20000 :=
  (Fine.str (signs_join (signs_aWords sh its))).mono (Nat.le_refl _) (aText_len G (fit_small h))
theorem fine_ct {cs : List (Str × Bool)} (G : GoodC cs) : Fine (.str (cText cs)) 0 36 := (Fine.str (signs_join (signs_cWords G.2))).mono (Nat.le_refl _) (cText_len G)
theorem chain_len : ∀ c ∈ chain, c.length ≤ 5 := by decide +kernel
theorem fine_pairs : ∀ cs : List (Str × Bool), (∀ p ∈ cs, p.1 ∈ chain) → FineAll (cs.map pData) 1 (8 * cs.length)
  | [], _ => .nil
  | (c, b) :: r, h => by
    have hc := h _ (List.mem_cons_self ..)
    have h1 : Fine (pData (c, b)) 1 7 := (Fine.tup (.cons ((Fine.str (signs_chain _ hc)).mono (Nat.le_refl _) (chain_len _ hc)) (.cons (Fine.bl b) .nil))).mono (Nat.le_refl _) (w' := 7) (by omega : 5 + 1 + (0 + 1 + 0) ≤ 7)
    exact (FineAll.cons h1 (fine_pairs r fun p hp => h p (List.mem_cons_of_mem _ hp))).mono (Nat.le_refl _) (by rw [List.length_cons]; omega)
theorem fine_c {cs : List (Str × Bool)} (G : GoodC cs) : Fine (cData cs) 2 24 := by
  have h := fine_pairs cs G.2
  rw [G.1] at h
  exact Fine.tup h
/-! ### where it stands -/
theorem dp_arr {K : PySem.W.Frag} {H : Hp} {p : Addr} {sh its : List Int} (h : Arr K H p sh its) : Dp K H (.ref p) (aData sh its) := by
  obtain ⟨a, b, hp, ha, hb⟩ := h
  exact .tup hp (.cons (.tup ha (dp_ints sh)) (.cons (.tup hb (dp_ints its)) .nil))
theorem dp_pairs {K : PySem.W.Frag} {H : Hp} : ∀ (as : List Addr) (cs : List (Str × Bool)), as.length = cs.length → (∀ (i : Nat) a c, as[i]? = some a → cs[i]? = some c → SqT K H a [.str c.1, .bl c.2]) → DpAll K H (as.map V.ref) (cs.map pData)
  | [], [], _, _ => .nil
  | [], _ :: _, h, _ => by cases h
  | _ :: _, [], h, _ => by cases h
  | a :: as, (c, b) :: cs, h, hat => .cons (.tup (hat 0 a (c, b) rfl rfl) (.cons (.str c) (.cons (.bl b) .nil))) (dp_pairs as cs (Nat.succ.inj h) fun i x y hx hy => hat (i + 1) x y hx hy)
theorem dp_cus {K : PySem.W.Frag} {H : Hp} {p : Addr} {cs : List (Str × Bool)} (h : Cus K H p cs) : Dp K H (.ref p) (cData cs) := by
  obtain ⟨as, hp, hl, hat⟩ := h
  exact .tup hp (dp_pairs as cs hl hat)
mutual
theorem Dp.same {K : PySem.W.Frag} {H H' : Hp} (s : Same H H') : ∀ {v : V} {d : PyData}, Dp K H v d → Dp K H' v d
  | _, _, .non => .non
  | _, _, .bl b => .bl b
  | _, _, .int i => .int i
  | _, _, .str x => .str x
  | _, _, .lst h t => .lst (s.seq h) (DpAll.same s t)
  | _, _, .tup h t => .tup (seqT s h) (DpAll.same s t)
theorem DpAll.same {K : PySem.W.Frag} {H H' : Hp} (s : Same H H') : ∀ {vs : List V} {ds : List PyData}, DpAll K H vs ds → DpAll K H' vs ds
  | _, _, .nil => .nil
  | _, _, .cons h t => .cons (Dp.same s h) (DpAll.same s t)
end
end K67
/-! _law_customs_due, _law_array_right. -/
namespace K67
open PySem PySem.Spec PyProof.Rows L2 TL LamX
/-- all but m, g and the tables stands -/
def KpT (m g : Addr) (H H' : Hp) : Prop := ∀ b o, H b = some o → b ≠ m → b ≠ g → (∀ ps, o ≠ .tbl ps) → H' b = some o
theorem KpT.of {m g : Addr} {H H' : Hp} (a : Kp m g H H') : KpT m g H H' := fun b o e n1 n2 _ => a b o e n1 n2
theorem KpT.trans {m g : Addr} {H H1 H2 : Hp} (a : KpT m g H H1) (b : KpT m g H1 H2) : KpT m g H H2 := fun c o e n1 n2 n3 => b c o (a c o e n1 n2 n3) n1 n2 n3
theorem KpT.ext {m g : Addr} {H H' : Hp} (a : ExtN H H') : KpT m g H H' := fun b o e _ _ n => a b o e n
theorem Dr.ext {m c g : Addr} {N : Int} {H H' : Hp} (d : Dr m c g N H) (s : ExtN H H') : Dr m c g N H' := by
  obtain ⟨n, cs, gs, h1, h2, h3, h4, h5, h6, h7, h8⟩ := d.ex
  exact ⟨n, cs, gs, h1, h2, s _ _ h3 (by intro ps z; cases z), s _ _ h4 (by intro ps z; cases z), h5, s _ _ h6 (by intro ps z; cases z), h7, h8⟩
theorem seqN {K : PySem.W.Frag} {H H' : Hp} {a : Addr} {xs : List V} (e : ExtN H H') (h : SqT K H a xs) : SqT K H' a xs := by
  rcases h with (h | ⟨o, h⟩) | h
  · exact .inl (.inl (e _ _ h (by intro ps z; cases z)))
  · exact .inl (.inr ⟨o, e _ _ h (by intro ps z; cases z)⟩)
  · exact .inr h
theorem Dr.tupT {m c g : Addr} {N : Int} {H H' : Hp} (d : Dr m c g N H) (k : KpT m g H H') {K : PySem.W.Frag} {a : Addr} {xs : List V} (h : SqT K H a xs) : SqT K H' a xs := by
  obtain ⟨n, cs, gs, h1, h2, h3, h4, h5, h6, h7, h8⟩ := d.ex
  rcases h with (h | ⟨o, h⟩) | h
  · exact .inl (.inl (k _ _ h (ne_of h h3 (by intro z; cases z)) (ne_of h h6 (by intro z; cases z)) (by intro ps z; cases z)))
  · exact .inl (.inr ⟨o, k _ _ h (ne_of h h3 (by intro z; cases z)) (ne_of h h6 (by intro z; cases z)) (by intro ps z; cases z)⟩)
  · exact .inr h
theorem Dr.arr {m c g : Addr} {N : Int} {H H' : Hp} (d : Dr m c g N H) (k : KpT m g H H') {K : PySem.W.Frag} {p : Addr} {sh its : List Int} (h : Arr K H p sh its) : Arr K H' p sh its := by
  obtain ⟨a, b, h1, h2, h3⟩ := h
  exact ⟨a, b, d.tupT k h1, d.tupT k h2, d.tupT k h3⟩
theorem Dr.tabs {m c g : Addr} {N : Int} {H H' : Hp} (d : Dr m c g N H) (k : Kp m g H H') {T : List (Addr × Str)} (h : Tabs T H) : Tabs T H' := fun p hp => by
  obtain ⟨n, cs, gs, h1, h2, h3, h4, h5, h6, h7, h8⟩ := d.ex
  obtain ⟨ps, e1, e2, e3⟩ := h p hp
  refine ⟨ps, k _ _ e1 (ne_of e1 h3 (by intro z; cases z)) (ne_of e1 h6 (by intro z; cases z)), e2, fun pos cv hc => ?_⟩
  obtain ⟨co, e4, e5⟩ := e3 pos cv hc
  exact ⟨co, e4, k _ _ e5 (ne_of e5 h3 (by intro z; unfold CodeO at z; cases z)) (ne_of e5 h6 (by intro z; unfold CodeO at z; cases z))⟩
/-! ### slices and sums of tuples -/
theorem slA {K : PySem.W.Frag} {H : Hp} {a : Addr} {xs : List V} {lo hi : Option Int} {Q : VK} (h : SqT K H a xs) (q : ∀ H' r, Same H H' → SqT K H' r (cutV xs lo hi) → Q (.ref r) H') : rSlA K (.ref a) lo hi H Q := by
  refine ⟨a, xs, rfl, h, fun ⟨e1, e2⟩ => q H a (Same.refl H) ?_, fun _ p np => q _ p (same_upd np) (SqT.of upd_same)⟩
  have e : cutV xs lo hi = xs := by
    unfold cutV
    rw [e1, e2, List.drop_zero, Nat.sub_zero]
    exact List.take_of_length_le (Nat.le_refl _)
  rw [e]
  exact h
theorem catA {K : PySem.W.Frag} {H : Hp} {a b : Addr} {xs ys : List V} {Q : VK} (h : SqT K H a xs) (h2 : SqT K H b ys) (hz : xs.length + ys.length ≤ sizeLine) (q : ∀ H' r, Same H H' → SqT K H' r (xs ++ ys) → Q (.ref r) H') : rCatA K (.ref a) (.ref b) H Q := by
  refine ⟨a, b, xs, ys, rfl, rfl, h, h2, hz, fun e => q H b (Same.refl H) (by rw [e]; exact h2), fun _ e => q H a (Same.refl H) (by rw [e, List.append_nil]; exact h), fun _ _ p np => q _ p (same_upd np) (SqT.of upd_same)⟩
theorem cut_to (ns : List Int) (j : Nat) (h : j ≤ ns.length) : cutV (ns.map V.int) none (some (j : Int)) = (ns.take j).map V.int := by
  unfold cutV
  rw [HT.sIx_none, HT.sIx_nat, List.drop_zero, Nat.sub_zero, List.length_map, Nat.min_eq_left h, List.map_take]
theorem cut_from (ns : List Int) (j : Nat) (h : j ≤ ns.length) : cutV (ns.map V.int) (some (j : Int)) none = (ns.drop j).map V.int := by
  unfold cutV
  rw [HT.sIx_none, HT.sIx_nat, List.length_map, Nat.min_eq_left h, List.map_drop]
  exact List.take_of_length_le (by rw [List.length_drop, List.length_map]; exact Nat.le_refl _)
/-! ### a def whose code object is known -/
structure DfC (K : PySem.W.Frag) (mg : Str → Option Value) (x : Str) (st : Stmt) (ps : List Str) (c : Addr) : Prop where
  ex : ∃ (f : Addr) (oc : Value) (od : Option Addr) (kV doc pm : Value) (an : Option Addr) (ct : Value) (osl : Array (Option Value)),
    K.lookup f = some ⟨oc, od, .func (PySem.W.fnOf x x (defArgs st) (defBody st) (defScope st) .none kV doc pm an (.ref c) ct), osl⟩ ∧ PySem.W.codeIn K (.ref c) x = true ∧ PySem.W.keepIn K (.ref f) = true ∧ mg x = some (.ref f) ∧
      Binds K (PySem.W.fnOf x x (defArgs st) (defBody st) (defScope st) .none kV doc pm an (.ref c) ct) ps []
theorem DfC.pmG {P : Program} {w : World} {K : PySem.W.Frag} {mg : Str → Option Value} {base : Heap} {x : Str} {st : Stmt} {N ps : List Str} {k : Nat} {sp : Sp} {c : Addr} (D : DfC K mg x st ps c) (S : FnScope N ps (defScope st))
    (len : ∀ vs H Q E, sp vs H Q E → vs.length = ps.length)
    (hbody : ∀ (f : Addr) (A : Around) (outer : List Env) (s : Shared) (H : Hp) (vs : List V) (Q : VK), A.guards = some [] →
      Room k (A.deeper (envOfC x (defScope st) s.heap.objs.size f (.ref c))) → sp vs H Q E0 →
      ∃ t, PSs (cxOf CX0 P w K mg base N x (defScope st) f (.ref c) A outer s H E0).nox (defBody st) t ∧ t { nx := fun _ H' => Q .non H', rt := Q } (start N vs) H) :
    PmG P w K mg base (k + 1) x sp := by
  obtain ⟨f, oc, od, kV, doc, pm, an, ct, osl, lk, hcd, kp, m, b⟩ := D.ex
  refine ⟨f, _, ps, ⟨len, fun A outer s H args us vs Q hg hr e0 hb r h => ?_⟩, m, kp, b⟩
  refine LamX.run_ofS lk hcd S hr e0 hb r (len _ _ _ _ h) fun hr' => ?_
  obtain ⟨t, ht, q⟩ := hbody f A outer s H vs Q hg hr' h
  exact ⟨t, ht.nox, q⟩
/-- the lambda's name -/
def q62 : Str := (envOfC "_law_array_right" (defScope (top 62)) 0 0 .none).qual ++ ("<lambda>" : Str)
def spArrRight (K : PySem.W.Frag) (TP : Addr) : Sp := fun vs H Q _ => ∃ (m c g : Addr) (N : Int) (p : Addr) (sh its : List Int), vs = [.ref m, .ref p] ∧ Dr m c g N H ∧ N < 90000 ∧ Arr K H p sh its ∧ GoodA sh its ∧ (∀ n ∈ its, n.natAbs < 10 ^ 31) ∧ Tabs [(TP, q62)] H ∧
  ∀ H', Dr m c g (N + 2) H' → KpT m g H H' → Tabs [(TP, q62)] H' → Q (.bl true) H'
section
variable {P : Program} {w : World} {K : PySem.W.Frag} {mg : Str → Option Value} {base : Heap} {C fI W : Addr}
theorem sc60 : FnScope ["_law_customs", "_law_found", "_law_custom", "_law_has_unit"] ["_law_customs"] (defScope (top 60)) := ⟨rfl, rfl, rfl, by decide +kernel, rfl, by decide +kernel, by decide +kernel⟩
theorem pm60 (T : Txt P w K mg C fI W) : Pm P w K mg base CX0 1 "_law_customs_due" (spDueC K) := T.d60.pm fun f fd F => by
  refine F.ok sc60 (fun vs H Q E h => ?_) (fun cdv A outer s H vs Q E hr h => ?_)
  · obtain ⟨p, cs, rfl, _⟩ := h
    rfl
  · obtain ⟨p, cs, rfl, hc, G, k⟩ := h
    refine ⟨_, pss_cons (ps_set (i := 1) sc60.nd rfl (Or.inl rfl) (pe_lst pa_nil))
      (pss_cons (ps_for PassesOwn.never rfl (pi_tup (pv 0)) (pg_tup rfl (pgs_cons (pg_name (i := 2) sc60.nd rfl (Or.inl rfl)) (pgs_cons (pg_name (i := 3) sc60.nd rfl (Or.inl rfl)) pgs_nil)))
        (pss_one (ps_set (i := 1) sc60.nd rfl (Or.inl rfl) (pe_op op_cat (pv 1) (pe_lst (pa_cons (pv 2) (pa_cons (pe_ifExp (pt_val (pv 3)) pe_str pe_str) pa_nil)))))))
      (pss_one (ps_ret (pe_join pe_str (pv 1))))), ?_⟩
    refine ⟨by show 0 ≤ sizeLine; decide, fun l nl' => ?_⟩
    obtain ⟨as, hp, hl, hat⟩ := hc
    have s0 : Same H (upd H l (.lst [])) := same_upd nl'
    refine ⟨_, rfl, p, rfl, ⟨_, seqT s0 hp⟩, for_tup (K := K) (a := p) (xs := as.map V.ref) (fun i σ H2 => ∃ (l : Addr) (v v2 : Option V), σ = [some (.ref p), some (.ref l), v, v2] ∧ Same H H2 ∧ H2 l = some (.lst ((cWords (cs.take i)).map V.str)))
      ⟨l, none, none, rfl, s0, upd_same⟩ (fun i σ H2 _ ⟨_, _, _, _, s2, _⟩ => seqT s2 hp) ?_ ?_⟩
    · rintro i y σ H2 hi ⟨l2, v, v2, rfl, s2, h2⟩
      obtain ⟨a, ha, rfl⟩ := map_get hi
      have hi2 : i < cs.length := by rw [← hl]; exact (List.getElem?_eq_some_iff.mp ha).1
      obtain ⟨⟨c, b⟩, hcb⟩ : ∃ cb, cs[i]? = some cb := ⟨_, List.getElem?_eq_getElem hi2⟩
      refine ⟨a, _, rfl, seqT s2 (hat i a _ ha hcb), rfl, _, _, rfl, _, _, rfl, rfl, ?_⟩
      refine ⟨_, rfl, _, rfl, _, rfl, b, rfl, ?_⟩
      have rest : ∀ u : Str, u = uW b → (2 ≤ sizeLine ∧ ∀ q, H2 q = none → rCat (.ref l2) (.ref q) (upd H2 q (.lst [.str c, .str u])) (fun v' H' => ∃ r : Addr, v' = .ref r ∧ Same H H' ∧ H' r = some (.lst ((cWords (cs.take (i + 1))).map V.str)))) := fun u hu => by
        refine ⟨by decide, fun q nq => ?_⟩
        have h2' : (upd H2 q (.lst [.str c, .str u])) l2 = some (.lst ((cWords (cs.take i)).map V.str)) := by rw [upd_ne (ne_of_none h2 nq)]; exact h2
        refine ⟨l2, q, _, _, rfl, rfl, h2', upd_same, ?_, fun r nr => ⟨r, rfl, same_updR (same_updR s2 (s2.free nq)) ((same_updR s2 (s2.free nq)).free nr), ?_⟩⟩
        · rw [List.length_map, cWords_len, List.length_take]
          exact Nat.le_trans (show 2 * min i cs.length + 2 ≤ 8 from by have := G.1; omega) (by decide)
        · rw [upd_same, cWords_take _ _ _ _ hcb, List.map_append, hu]
          rfl
      cases b with
      | true =>
        obtain ⟨z1, z2⟩ := rest (uW true) rfl
        refine iteT ⟨z1, fun q nq => ?_⟩
        obtain ⟨l3, q3, xs, ys, e1, e2, e3, e4, e5, e6⟩ := z2 q nq
        refine ⟨l3, q3, xs, ys, e1, e2, e3, e4, e5, fun r nr => ?_⟩
        obtain ⟨r', er, sr, hr'⟩ := e6 r nr
        cases er
        exact ⟨_, _, _, rfl, sr, hr'⟩
      | false =>
        obtain ⟨z1, z2⟩ := rest (uW false) rfl
        refine iteF ⟨z1, fun q nq => ?_⟩
        obtain ⟨l3, q3, xs, ys, e1, e2, e3, e4, e5, e6⟩ := z2 q nq
        refine ⟨l3, q3, xs, ys, e1, e2, e3, e4, e5, fun r nr => ?_⟩
        obtain ⟨r', er, sr, hr'⟩ := e6 r nr
        cases er
        exact ⟨_, _, _, rfl, sr, hr'⟩
    · rintro σ H2 ⟨l2, v, v2, rfl, s2, h2⟩
      rw [List.take_of_length_le (by rw [List.length_map, hl]; exact Nat.le_refl _)] at h2
      refine ⟨⟨_, rfl⟩, _, rfl, sp, l2, cWords cs, rfl, rfl, .inl (SqL.of h2), cJoin_small G, ?_⟩
      rw [join_eq]
      exact k _ s2
end
end K67
/-! _law_array_right. -/
namespace K67
open PySem PySem.Spec PyProof.Rows L2 TL LamX
theorem wide_len {its : List Int} {j : Nat} (hj : j < its.length) (gr : Int) : (its.take j ++ [gr] ++ its.drop (j + 1)).length = its.length := by
  simp
  omega
theorem wide_good {sh its : List Int} (G : GoodA sh its) {j : Nat} (hj : j < its.length) (gr : Int) : GoodA sh (its.take j ++ [gr] ++ its.drop (j + 1)) :=
  ⟨G.len, G.side, G.last, by rw [wide_len hj]; exact G.many, by rw [wide_len hj]; exact G.few⟩
theorem wide_small {its : List Int} (h : ∀ n ∈ its, n.natAbs < 10 ^ 31) {j : Nat} {gr : Int} (hg : gr.natAbs < 10 ^ 100) : ∀ n ∈ its.take j ++ [gr] ++ its.drop (j + 1), n.natAbs < 10 ^ 100 := by
  intro n hn
  rcases List.mem_append.mp hn with hn | hn
  · rcases List.mem_append.mp hn with hn | hn
    · exact Nat.lt_of_lt_of_le (h n (List.mem_of_mem_take hn)) pow31
    · rw [List.mem_singleton.mp hn]; exact hg
  · exact Nat.lt_of_lt_of_le (h n (List.mem_of_mem_drop hn)) pow31
theorem wide_big {its : List Int} {j : Nat} {gr : Int} (hg : 10 ^ 31 ≤ gr.natAbs) : Big (its.take j ++ [gr] ++ its.drop (j + 1)) := ⟨gr, by simp, figs_gt hg⟩
section
variable {P : Program} {w : World} {K : PySem.W.Frag} {mg : Str → Option Value} {base : Heap} {C fI W : Addr}
theorem sc62 : FnScope ["_law_m", "_law_array", "_law_due", "_law_spot", "_law_great", "_law_wide"] ["_law_m", "_law_array"] (defScope (top 62)) := ⟨rfl, rfl, rfl, by decide +kernel, rfl, by decide +kernel, by decide +kernel⟩
theorem pm62 (T : Txt P w K mg C fI W) {cc TP : Addr} (D62 : DfC K mg "_law_array_right" (top 62) ["_law_m", "_law_array"] cc) (TB : TabB base mg cc TP) : PmG P w K mg base 10 "_law_array_right" (spArrRight K TP) := by
  refine D62.pmG sc62 (fun vs H Q E h => ?_) (fun f A outer s H vs Q hg hr h => ?_)
  · obtain ⟨m, c, g, N, p, sh, its, rfl, _⟩ := h
    rfl
  · obtain ⟨m, c, g, N, p, sh, its, rfl, D, hN, Ar, G, hn, hT, k⟩ := h
    obtain ⟨g61, fd61, F61, m61, b61⟩ := T.d61.ex
    obtain ⟨oc, od, kV, doc, pm, an, cdv, ct, osl, rfl, lk, hcd⟩ := F61.ex
    refine ⟨_, pss_cons (ps_set (i := 2) sc62.nd rfl (Or.inl rfl) (pe_f (pm59 T) (hr.mono (by decide)) pass0 (pa_cons (pv 1) pa_nil)))
      (pss_cons (ps_if (PW.pt (pw_or (pt_not (pt_val (pe_fG (pm54 T) (guards_deeper _ hg) (hr.mono (by decide)) (pa_cons (pe_lst (pa_cons (pe_f (pm43 T) (hr.mono (by decide)) passL (pa_cons (pv 1) pa_nil)) (pa_cons (pe_f (pm43 T) (hr.mono (by decide)) passL (pa_cons (pv 1) pa_nil)) pa_nil))) (pa_cons (pe_lst (pa_cons (pv 2) (pa_cons (pv 2) pa_nil))) pa_nil)))))
          (pw_or1 (pt_not (pt_val (pe_fG (pm54 T) (guards_deeper _ hg) (hr.mono (by decide)) (pa_cons (pe_f (pm47 T) (hr.mono (by decide)) pass0 (pa_cons (pv 2) pa_nil)) (pa_cons (pv 1) pa_nil)))))))) (pss_one (ps_ret pe_bl)) pss_nil)
      (pss_cons (ps_if (pt_cmpR (op_eqD hr.units) (pe_ix ix_tup (pv 1) pe_int (fun _ _ => rfl)) (pe_tup pa_nil) (nomark _)) (pss_one (ps_ret pe_bl)) pss_nil)
      (pss_cons (ps_par (i := 3) (j := 4) rfl sc62.nd rfl rfl (by decide) rfl rfl (pa_cons (pe_f (pm52 T) (hr.mono (by decide)) pass0 (pa_cons (pv 0) (pa_cons (pe_callB call_len (by rfl) T.nLen PySem.boot_len (pa_cons (pe_ix ix_tup (pv 1) pe_int (fun _ _ => rfl)) pa_nil)) pa_nil)))
          (pa_cons (pe_f (pm55 T) (hr.mono (by decide)) pass0 (pa_cons (pv 0) (pa_cons (pe_lst (pa_cons (pe_op op_pow pe_int pe_int) (pa_cons (pe_op op_sub pe_int (pe_op op_pow pe_int pe_int)) (pa_cons (pe_op op_pow pe_int pe_int) pa_nil)))) pa_nil))) pa_nil)) (by rfl))
      (pss_cons (ps_set (i := 5) sc62.nd rfl (Or.inr rfl) (pe_tup (pa_cons (pe_ix ix_tup (pv 1) pe_int (fun _ _ => rfl)) (pa_cons
          (pe_op op_catA (pe_op op_catA (pe_slice sl_tupA (pe_ix ix_tup (pv 1) pe_int (fun _ _ => rfl)) po_none (po_some (pv 3))) (pe_tup (pa_cons (pv 4) pa_nil))) (pe_slice sl_tupA (pe_ix ix_tup (pv 1) pe_int (fun _ _ => rfl)) (po_some (pe_op op_add (pv 3) pe_int)) po_none)) pa_nil))))
      (pss_one (ps_ret (pe_cmpR (op_eqD hr.units) (pe_lamcall (T := [(TP, q62)]) (TT := TTheard C) (k := 7) rfl m61 F61.kp lk hcd b61 sc61 rfl (.inl rfl) (heard_gives T) TB rfl (List.mem_singleton.mpr rfl) (fun p hp _ => by rw [List.mem_singleton.mp hp]; rfl) hr (show LamS (defScope (top 62)) _ from lamS_by (by decide +kernel)) rfl (fun _ _ _ _ _ => rfl)
          (fun A outer s H E f c' hr2 => pe_f (pm43 T) hr2 (passes_call (takes_of rfl rfl rfl rfl) (fun _ _ _ _ h => h)) (pa_cons (pv 5) pa_nil))) (pe_tup (pa_cons pe_str (pa_cons pe_int pa_nil))) (nomark _)))))))), ?_⟩
    have fit : Fit its := fit_small hn
    have hn100 : ∀ n ∈ its, n.natAbs < 10 ^ 100 := fun n h => Nat.lt_of_lt_of_le (hn n h) pow31
    have noBig : ∀ E C H, Big its → XGreat E C H := fun E C H hB => by
      obtain ⟨n, h, hb⟩ := hB
      have := fit n h
      omega
    have ft : Fine (.list [.str (aText sh its), .str (aText sh its)]) 1 40002 := (Fine.list (.cons (fine_at G hn) (.cons (fine_at G hn) .nil))).mono (Nat.le_refl _) (by omega : 20000 + 1 + (20000 + 1 + 0) ≤ 40002)
    have fa := fine_a G hn
    -- due
    refine ⟨_, rfl, p, sh, its, rfl, Ar, G, hn, ?_⟩
    -- told twice
    refine ⟨_, rfl, p, sh, its, rfl, Ar, G, hn100, fun _ H1 s1 => ?_, noBig _ _ _⟩
    refine ⟨_, rfl, p, sh, its, rfl, Ar.same s1, G, hn100, fun _ H2 s2 => ?_, noBig _ _ _⟩
    refine ⟨by show 2 ≤ sizeLine; decide, fun l1 nl1 => ⟨_, rfl, _, rfl, by show 2 ≤ sizeLine; decide, fun l2 nl2 => ?_⟩⟩
    have s3 : Same H2 (upd H2 l1 (.lst [.str (aText sh its), .str (aText sh its)])) := same_upd nl1
    have s4 := same_upd (o := .lst [.str (aText sh its), .str (aText sh its)]) nl2
    refine ⟨l1, l2, .list [.str (aText sh its), .str (aText sh its)], rfl, .lst (SqL.of (s4 _ _ upd_same)) (.cons (.str _) (.cons (.str _) .nil)), .lst (SqL.of upd_same) (.cons (.str _) (.cons (.str _) .nil)), ft.sh, ft.nd, Nat.le_trans ft.dp (by decide), ft.out (by omega), _, rfl, iteF ?_⟩
    have S4 := ((s1.trans s2).trans s3).trans s4
    -- read back
    refine ⟨_, rfl, sh, its, rfl, G, hn, fun H5 q s5 A5 => ⟨_, rfl, q, p, aData sh its, rfl, dp_arr A5, dp_arr (Ar.same (S4.trans s5)), fa.sh, fa.nd, Nat.le_trans fa.dp (by decide), fa.out (by omega), _, rfl, iteF ?_⟩⟩
    have S5 := S4.trans s5
    clear A5
    have A5 := Ar.same S5
    obtain ⟨a, b, hp, ha, hb⟩ := id A5
    refine ⟨_, rfl, p, _, _, _, rfl, rfl, hp, at_of (j := 1) rfl rfl, by show 0 ≤ sizeLine; decide, fun t nt => ?_⟩
    have s6 := same_upd (o := .tup []) nt
    refine ⟨.tuple (its.map PyData.int), .tuple [], .tup (seqT s6 hb) (dp_ints its), .tup (SqT.of upd_same) .nil, shaped_tup its, shaped_tup [], _, rfl, ?_⟩
    have S6 := S5.trans s6
    have D6 := D.same S6
    have T6 := Tabs.ext hT S6
    have A6 := Ar.same S6
    obtain ⟨a, b, hp, ha, hb⟩ := id A6
    cases e : PyData.eqv (.tuple (its.map PyData.int)) (.tuple []) with
    | true => exact iteT (k _ (D6.mono (by omega)) (KpT.of (Kp.of S6)) T6)
    | false =>
      have hne : its ≠ [] := fun z => by
        rw [z] at e
        simp [PyData.eqv, PyData.eqvAll] at e
      have hpos : 0 < its.length := List.length_pos_iff.mpr hne
      have hfew := G.few
      refine iteF ?_
      -- spot, great
      refine ⟨_, rfl, _, rfl, p, _, _, _, rfl, rfl, hp, at_of (j := 1) rfl rfl, _, _, rfl, .inr ⟨_, hb, rfl⟩, m, c, g, N, _, rfl, by rw [List.length_map]; omega, by rw [List.length_map]; omega, D6, by omega, fun H7 r r0 r1 D7 k7 => ?_⟩
      have T7 := D6.tabs k7 T6
      have A7 := D6.arr (KpT.of k7) A6
      refine ⟨_, rfl, _, _, rfl, rfl, ⟨by decide, by decide, by decide⟩, _, _, rfl, rfl, ⟨by decide, by decide, by decide⟩, _, _, rfl, rfl, _, _, rfl, rfl, ⟨by decide, by decide, by decide⟩, by show 3 ≤ sizeLine; decide, fun l nl' => ?_⟩
      obtain ⟨n1, n2, n3⟩ := D7.new nl'
      have s8 := same_upd (o := .lst [.int (10 ^ (31 : Int).toNat), .int (0 - 10 ^ (31 : Int).toNat), .int (10 ^ (40 : Int).toNat)]) nl'
      have D8 := D7.same s8
      refine ⟨m, c, g, l, _, _, rfl, upd_same, n3, by show 0 < 3; decide, by show 3 ≤ 1000; decide, D8, by omega, fun H9 x hx D9 k9 => ?_⟩
      have T9 := D8.tabs k9 (T7.ext s8)
      have A9 := D8.arr (KpT.of k9) (A7.same s8)
      have K9 : KpT m g H H9 := ((KpT.of (Kp.of S6)).trans (KpT.of k7)).trans ((KpT.of (Kp.of s8)).trans (KpT.of k9))
      obtain ⟨gr, rfl, hg1, hg2⟩ : ∃ gr : Int, x = .int gr ∧ 10 ^ 31 ≤ gr.natAbs ∧ gr.natAbs < 10 ^ 100 := by
        simp only [List.mem_cons, List.not_mem_nil, or_false] at hx
        rcases hx with h | h | h
        · exact ⟨_, h, by decide, by decide⟩
        · exact ⟨_, h, by decide, by decide⟩
        · exact ⟨_, h, by decide, by decide⟩
      refine ⟨_, _, rfl, ?_⟩
      -- wide
      obtain ⟨j, rfl⟩ := Int.eq_ofNat_of_zero_le r0
      have hj : j < its.length := by
        rw [List.length_map] at r1
        omega
      obtain ⟨a, b, hp, ha, hb⟩ := id A9
      refine ⟨_, rfl, p, _, _, _, rfl, rfl, hp, at_of (j := 0) rfl rfl, _, rfl, p, _, _, _, rfl, rfl, hp, at_of (j := 1) rfl rfl, _, rfl, _, rfl, slA hb fun H10 r10 s10 c10 => ?_⟩
      rw [cut_to its j (Nat.le_of_lt hj)] at c10
      refine ⟨_, rfl, by show 1 ≤ sizeLine; decide, fun t2 nt2 => catA (seqT (same_upd nt2) c10) (SqT.of upd_same) ?_ fun H12 r12 s12 c12 => ?_⟩
      · rw [List.length_map, List.length_take]
        exact sl_small (show min j its.length + 1 ≤ _ by omega)
      have S12 := (s10.trans (same_upd nt2)).trans s12
      refine ⟨_, rfl, p, _, _, _, rfl, rfl, seqT S12 hp, at_of (j := 1) rfl rfl, _, rfl, _, _, rfl, rfl, _, rfl, ?_⟩
      unfold tNoPart
      refine slA (seqT S12 hb) fun H13 r13 s13 c13 => catA (seqT s13 c12) c13 ?_ fun H14 r14 s14 c14 => ?_
      · have := cutV_length (its.map V.int) (some ((j : Int) + 1)) none
        rw [List.length_map] at this
        rw [List.length_append, List.length_map, List.length_take]
        exact sl_small (show min j its.length + 1 + _ ≤ _ by omega)
      have ej : (j : Int) + 1 = ((j + 1 : Nat) : Int) := by omega
      rw [ej, cut_from its (j + 1) hj] at c14
      refine ⟨by show 2 ≤ sizeLine; decide, fun pw nw => ?_⟩
      have S14 := (S12.trans s13).trans s14
      have S15 := S14.trans (same_upd (o := .tup [.ref a, .ref r14]) nw)
      have D15 := D9.same S15
      have T15 := T9.ext S15
      have cw : ((its.take j).map V.int ++ [V.int gr]) ++ (its.drop (j + 1)).map V.int = (its.take j ++ [gr] ++ its.drop (j + 1)).map V.int := by simp
      rw [cw] at c14
      have A15 : Arr K (upd H14 pw (.tup [.ref a, .ref r14])) pw sh (its.take j ++ [gr] ++ its.drop (j + 1)) := ⟨a, r14, SqT.of upd_same, seqT S15 ha, seqT (same_upd nw) c14⟩
      -- heard
      refine ⟨T15, fun H16 e16 T16 H17 s17 Q' => ?_⟩
      have A17 : Arr K H17 pw sh (its.take j ++ [gr] ++ its.drop (j + 1)) := by
        obtain ⟨a1, b1, z1, z2, z3⟩ := A15
        exact ⟨a1, b1, seqT s17 (seqN e16 z1), seqT s17 (seqN e16 z2), seqT s17 (seqN e16 z3)⟩
      refine ⟨_, rfl, pw, sh, _, rfl, A17, wide_good G hj gr, wide_small hn hg2, fun hF => ?_, fun _ H18 d s18 nd hd => ⟨rfl, d, rfl, hd, fun r19 n19 => ?_⟩⟩
      · obtain ⟨n, h, hb⟩ := wide_big (its := its) (j := j) hg1
        have := hF n h
        omega
      have s19 := same_upd (o := .tup [vGreat, .int 31]) n19
      refine ⟨by show 2 ≤ sizeLine; decide, fun t20 n20 => ?_⟩
      have s20 := same_upd (o := .tup [vGreat, .int 31]) n20
      have S20 := ((s17.trans s18).trans s19).trans s20
      have dat : ∀ H : Hp, ∀ x : Addr, H x = some (.tup [vGreat, .int 31]) → Dp K H (.ref x) (.tuple [.str (("great" : String) : Str), .int 31]) := fun H x h => .tup (SqT.of h) (.cons (.str _) (.cons (.int _) .nil))
      refine ⟨_, _, dat _ _ (s20 _ _ upd_same), dat _ _ upd_same, by decide +kernel, by decide +kernel, ?_⟩
      have ev : PyData.eqv (.tuple [.str (("great" : String) : Str), .int 31]) (.tuple [.str (("great" : String) : Str), .int 31]) = true := by decide +kernel
      rw [ev]
      have eN : N + 1 + 1 = N + 2 := by omega
      exact k _ (by rw [← eN]; exact (D15.ext e16).same S20) ((K9.trans (KpT.of (Kp.of S15))).trans ((KpT.ext e16).trans (KpT.of (Kp.of S20)))) (T16.ext S20)
end
end K67
/-! _law_customs_right, _law_hand_right. -/
namespace K67
open PySem PySem.Spec PyProof.Rows L2 TL LamX
def spCusRight (K : PySem.W.Frag) : Sp := fun vs H Q _ => ∃ (p : Addr) (cs : List (Str × Bool)), vs = [.ref p] ∧ Cus K H p cs ∧ GoodC cs ∧ ∀ H', Same H H' → Q (.bl true) H'
def spHand : Sp := fun vs H Q _ => vs = [] ∧ ∀ H', Same H H' → Q (.bl true) H'
/-! ### the rows written by hand -/
def tRow (r : List Int × List Int × Str) : TE := tTup (tCons (tTup (tCons (tTup (tInts r.1)) (tCons (tTup (tInts r.2.1)) tNil))) (tCons (tC (.str r.2.2)) tNil))
def tRows : List (List Int × List Int × Str) → TA
  | [] => tNil
  | r :: rs => tCons (tRow r) (tRows rs)
/-- a row at a -/
def RowH (K : PySem.W.Frag) (H : Hp) (a : Addr) (r : List Int × List Int × Str) : Prop := ∃ p, SqT K H a [.ref p, .str r.2.2] ∧ Arr K H p r.1 r.2.1
theorem RowH.same {K : PySem.W.Frag} {H H' : Hp} {a : Addr} {r : List Int × List Int × Str} (s : Same H H') (h : RowH K H a r) : RowH K H' a r := by
  obtain ⟨p, h1, h2⟩ := h
  exact ⟨p, seqT s h1, h2.same s⟩
theorem tRow_ok {K : PySem.W.Frag} (r : List Int × List Int × Str) (σ : L2.St) (H : Hp) (Q : VK) (h1 : r.1.length ≤ sizeLine) (h2 : r.2.1.length ≤ sizeLine) (h : ∀ H' a, Same H H' → RowH K H' a r → Q (.ref a) H') : tRow r σ H Q := by
  have two : 2 ≤ sizeLine := by decide
  refine tInts_ok r.1 σ H _ ⟨by rw [List.length_map]; exact h1, fun p1 n1 => ?_⟩
  refine tInts_ok r.2.1 σ _ _ ⟨by rw [List.length_map]; exact h2, fun p2 n2 => ?_⟩
  refine ⟨two, fun p3 n3 => ⟨two, fun p4 n4 => ?_⟩⟩
  have s1 := same_upd (o := .tup (r.1.map V.int)) n1
  have s2 := same_upd (o := .tup (r.2.1.map V.int)) n2
  have s3 := same_upd (o := .tup [.ref p1, .ref p2]) n3
  have s4 := same_upd (o := .tup [.ref p3, .str r.2.2]) n4
  exact h _ p4 (((s1.trans s2).trans s3).trans s4) ⟨p3, SqT.of upd_same, p1, p2, SqT.of (s4 _ _ upd_same), SqT.of (s4 _ _ (s3 _ _ (s2 _ _ upd_same))), SqT.of (s4 _ _ (s3 _ _ upd_same))⟩
theorem tRows_ok {K : PySem.W.Frag} : ∀ (l : List (List Int × List Int × Str)) (σ : L2.St) (H : Hp) (Q : List V → Hp → Prop), (∀ r ∈ l, r.1.length ≤ sizeLine ∧ r.2.1.length ≤ sizeLine) →
    (∀ H' (as : List Addr), Same H H' → as.length = l.length → (∀ (i : Nat) a r, as[i]? = some a → l[i]? = some r → RowH K H' a r) → Q (as.map V.ref) H') → tRows l σ H Q
  | [], _, H, _, _, h => h H [] (Same.refl H) rfl (fun i a r ha _ => by simp at ha)
  | r :: rs, σ, H, Q, hz, h => by
    have z := hz r (List.mem_cons_self ..)
    show tRow r σ H fun v H1 => tRows rs σ H1 fun vs H2 => Q (v :: vs) H2
    refine tRow_ok (K := K) r σ H _ z.1 z.2 fun H1 a s1 R1 => ?_
    refine tRows_ok (K := K) rs σ H1 _ (fun s hs => hz s (List.mem_cons_of_mem _ hs)) fun H' as s2 hl hat => ?_
    refine h H' (a :: as) (s1.trans s2) (by rw [List.length_cons, List.length_cons, hl]) fun i a' r' ha hr => ?_
    cases i with
    | zero =>
      obtain rfl := Option.some.inj ha
      obtain rfl := Option.some.inj hr
      exact R1.same s2
    | succ i => exact hat i a' r' ha hr
def rows1 : List (List Int × List Int × Str) := [([2, 3], [1, 2, 3, 4, 5, 6], (("[ 2 3 : 1 2 3 4 5 6 ]" : String) : Str)), ([], [5], (("[ : 5 ]" : String) : Str)), ([0], [], (("[ 0 : ]" : String) : Str))]
def rows2 : List (List Int × List Int × Str) := [([1, 1, 1, 1], [-7], (("[ 1 1 1 1 : -7 ]" : String) : Str)), ([2, 0], [], (("[ 2 0 : ]" : String) : Str)), ([], [0], (("[ : 0 ]" : String) : Str))]
theorem rows_good : ∀ r ∈ rows1 ++ rows2, r.2.2 = aText r.1 r.2.1 ∧ r.1.length ≤ 4 ∧ (∀ s ∈ r.1, 0 ≤ s ∧ s ≤ 400) ∧ prodI (posl r.1) ≤ 400 ∧ (r.2.1.length : Int) = prodI r.1 ∧ r.2.1.length ≤ 400 ∧ ∀ n ∈ r.2.1, n.natAbs < 10 ^ 31 := by decide +kernel
theorem rows_small (l : List (List Int × List Int × Str)) (h : ∀ r ∈ l, r ∈ rows1 ++ rows2) : ∀ r ∈ l, r.1.length ≤ sizeLine ∧ r.2.1.length ≤ sizeLine := fun r hr => by
  obtain ⟨_, h1, _, _, _, h2, _⟩ := rows_good r (h r hr)
  exact ⟨sl_small (by omega), sl_small (by omega)⟩
def tRows1 (K : PySem.W.Frag) (l : List (List Int × List Int × Str)) : TE := fun σ H Q => ∀ (H1 : Hp) (as : List Addr) (a : Addr), Same H H1 → as.length = l.length → (∀ (i : Nat) a r, as[i]? = some a → l[i]? = some r → RowH K H1 a r) → H1 a = none → Q (.ref a) (upd H1 a (.lst (as.map V.ref)))
theorem rows_imp {K : PySem.W.Frag} (l : List (List Int × List Int × Str)) (hl : ∀ r ∈ l, r ∈ rows1 ++ rows2) (hs : l.length ≤ sizeLine) (σ : L2.St) (H : Hp) (Q : VK) (h : tRows1 K l σ H Q) : tLst (tRows l) σ H Q :=
  tRows_ok (K := K) l σ H _ (rows_small l hl) fun H1 as s1 hl1 hat => ⟨by rw [List.length_map, hl1]; exact hs, fun a na => h H1 as a s1 hl1 hat na⟩
def handC : List (Str × Bool) := [(wAny, true), (wNone, false), (wOnce, true)]
theorem handC_good : GoodC handC := ⟨rfl, by decide +kernel⟩
theorem handC_text : (("any unit none bare once unit" : String) : Str) = cText handC := by decide +kernel
section
variable {P : Program} {w : World} {K : PySem.W.Frag} {mg : Str → Option Value} {base : Heap} {C fI W : Addr}
theorem sc63 : FnScope ["_law_customs", "_law_due"] ["_law_customs"] (defScope (top 63)) := ⟨rfl, rfl, rfl, by decide +kernel, rfl, by decide +kernel, by decide +kernel⟩
theorem pm63 (T : Txt P w K mg C fI W) : PmG P w K mg base 6 "_law_customs_right" (spCusRight K) := T.d63.pmG fun f fd F => by
  refine okG F sc63 (fun vs H Q E h => ?_) (fun cdv A outer s H vs Q hg hr h => ?_)
  · obtain ⟨p, cs, rfl, _⟩ := h
    rfl
  · obtain ⟨p, cs, rfl, hc, G, k⟩ := h
    refine ⟨_, pss_cons (ps_set (i := 1) sc63.nd rfl (Or.inl rfl) (pe_f (pm60 T) (hr.mono (by decide)) pass0 (pa_cons (pv 0) pa_nil)))
      (pss_one (ps_ret (pe_fG (pm54 T) (guards_deeper _ hg) (hr.mono (by decide)) (pa_cons (pe_lst (pa_cons (pe_f (pm44 T) (hr.mono (by decide)) pass0 (pa_cons (pv 0) pa_nil)) (pa_cons (pe_f (pm48 T) hr pass0 (pa_cons (pv 1) pa_nil))
        (pa_cons (pe_f (pm44 T) (hr.mono (by decide)) pass0 (pa_cons (pe_f (pm48 T) hr pass0 (pa_cons (pv 1) pa_nil)) pa_nil)) pa_nil)))) (pa_cons (pe_lst (pa_cons (pv 1) (pa_cons (pv 0) (pa_cons (pv 1) pa_nil)))) pa_nil))))), ?_⟩
    have fd : Fine (.list [.str (cText cs), cData cs, .str (cText cs)]) 3 200 := (Fine.list (.cons ((fine_ct G).mono (Nat.zero_le 2) (Nat.le_refl _)) (.cons (fine_c G) (.cons ((fine_ct G).mono (Nat.zero_le 2) (Nat.le_refl _)) .nil)))).mono (Nat.le_refl _) (by omega : 36 + 1 + (24 + 1 + (36 + 1 + 0)) ≤ 200)
    refine ⟨_, rfl, p, cs, rfl, hc, G, fun H1 s1 => ?_⟩
    refine ⟨_, rfl, p, cs, rfl, hc.same s1, G, fun H2 s2 => ?_⟩
    refine ⟨_, rfl, cs, rfl, G, fun H3 q s3 C3 => ?_⟩
    refine ⟨_, rfl, cs, rfl, G, fun H4 q2 s4 C4 => ?_⟩
    refine ⟨q2, cs, rfl, C4, G, fun H5 s5 => ?_⟩
    refine ⟨by show 3 ≤ sizeLine; decide, fun l1 n1 => ?_⟩
    refine ⟨_, rfl, _, rfl, _, rfl, by show 3 ≤ sizeLine; decide, fun l2 n2 => ?_⟩
    have s6 := same_upd (o := .lst [.str (cText cs), .ref q, .str (cText cs)]) n1
    have s7 := same_upd (o := .lst [.str (cText cs), .ref p, .str (cText cs)]) n2
    have S3 := ((s4.trans s5).trans s6).trans s7
    have S := (((s1.trans s2).trans s3).trans S3)
    refine ⟨l1, l2, .list [.str (cText cs), cData cs, .str (cText cs)], rfl, .lst (SqL.of (s7 _ _ upd_same)) (.cons (.str _) (.cons (dp_cus (C3.same S3)) (.cons (.str _) .nil))), .lst (SqL.of upd_same) (.cons (.str _) (.cons (dp_cus (hc.same S)) (.cons (.str _) .nil))),
      fd.sh, fd.nd, Nat.le_trans fd.dp (by decide), fd.out (by decide), k _ S⟩
theorem sc64 : FnScope ["_law_rows", "_law_array", "_law_due", "_law_customs"] [] (defScope (top 64)) := ⟨rfl, rfl, rfl, by decide +kernel, rfl, by decide +kernel, by decide +kernel⟩
theorem pm64 (T : Txt P w K mg C fI W) : PmG P w K mg base 8 "_law_hand_right" spHand := T.d64.pmG fun f fd F => by
  refine okG F sc64 (fun vs H Q E h => ?_) (fun cdv A outer s H vs Q hg hr h => ?_)
  · obtain ⟨rfl, _⟩ := h
    rfl
  · obtain ⟨rfl, k⟩ := h
    refine ⟨_, pss_cons (ps_set (i := 0) sc64.nd rfl (Or.inl rfl) (pe_imp (t' := tRows1 K rows1) (pe_lst (pa_cons (pe_tup (pa_cons (pe_tup (pa_cons (pe_tup (pa_cons pe_int (pa_cons pe_int pa_nil))) (pa_cons (pe_tup (pa_cons pe_int (pa_cons pe_int (pa_cons pe_int (pa_cons pe_int (pa_cons pe_int (pa_cons pe_int pa_nil))))))) pa_nil))) (pa_cons pe_str pa_nil)))
        (pa_cons (pe_tup (pa_cons (pe_tup (pa_cons (pe_tup pa_nil) (pa_cons (pe_tup (pa_cons pe_int pa_nil)) pa_nil))) (pa_cons pe_str pa_nil))) (pa_cons (pe_tup (pa_cons (pe_tup (pa_cons (pe_tup (pa_cons pe_int pa_nil)) (pa_cons (pe_tup pa_nil) pa_nil))) (pa_cons pe_str pa_nil))) pa_nil))))
        (fun σ H Q h => rows_imp rows1 (fun r hr => List.mem_append_left _ hr) (by decide) σ H Q h)))
      (pss_cons (ps_set (i := 0) sc64.nd rfl (Or.inl rfl) (pe_op op_cat (pv 0) (pe_imp (t' := tRows1 K rows2) (pe_lst (pa_cons (pe_tup (pa_cons (pe_tup (pa_cons (pe_tup (pa_cons pe_int (pa_cons pe_int (pa_cons pe_int (pa_cons pe_int pa_nil))))) (pa_cons (pe_tup (pa_cons (pe_imp (t' := tC (.int (-7))) (pe_un un_neg pe_int) (fun σ H Q h => ⟨7, rfl, h⟩)) pa_nil)) pa_nil))) (pa_cons pe_str pa_nil)))
        (pa_cons (pe_tup (pa_cons (pe_tup (pa_cons (pe_tup (pa_cons pe_int (pa_cons pe_int pa_nil))) (pa_cons (pe_tup pa_nil) pa_nil))) (pa_cons pe_str pa_nil))) (pa_cons (pe_tup (pa_cons (pe_tup (pa_cons (pe_tup pa_nil) (pa_cons (pe_tup (pa_cons pe_int pa_nil)) pa_nil))) (pa_cons pe_str pa_nil))) pa_nil))))
        (fun σ H Q h => rows_imp rows2 (fun r hr => List.mem_append_right _ hr) (by decide) σ H Q h))))
      (pss_cons (ps_for PassesOwn.never rfl (pi_list (pv 0)) (pg_tup rfl (pgs_cons (pg_name (i := 1) sc64.nd rfl (Or.inl rfl)) (pgs_cons (pg_name (i := 2) sc64.nd rfl (Or.inl rfl)) pgs_nil)))
        (pss_one (ps_if (pt_not (pt_val (pe_fG (pm54 T) (guards_deeper _ hg) (hr.mono (by decide)) (pa_cons (pe_lst (pa_cons (pe_f (pm43 T) hr passL (pa_cons (pv 1) pa_nil)) (pa_cons (pe_f (pm47 T) hr pass0 (pa_cons (pv 2) pa_nil)) pa_nil)))
          (pa_cons (pe_lst (pa_cons (pv 2) (pa_cons (pv 1) pa_nil))) pa_nil))))) (pss_one (ps_ret pe_bl)) pss_nil)))
      (pss_cons (ps_asg (pe_tup (pa_cons (pe_tup (pa_cons (pe_tup (pa_cons pe_str (pa_cons pe_bl pa_nil))) (pa_cons (pe_tup (pa_cons pe_str (pa_cons pe_bl pa_nil))) (pa_cons (pe_tup (pa_cons pe_str (pa_cons pe_bl pa_nil))) pa_nil)))) (pa_cons pe_str pa_nil))) (pg_tup rfl (pgs_cons (pg_name (i := 3) sc64.nd rfl (Or.inl rfl)) (pgs_cons (pg_name (i := 2) sc64.nd rfl (Or.inl rfl)) pgs_nil))))
      (pss_one (ps_ret (pe_and (pe_cmpR op_eq (pe_f (pm44 T) (hr.mono (by decide)) pass0 (pa_cons (pv 3) pa_nil)) (pv 2) (nomark _)) (pe_one (pe_cmpR (op_eqD hr.units) (pe_f (pm48 T) (hr.mono (by decide)) pass0 (pa_cons (pv 2) pa_nil)) (pv 3) (nomark _))))))))), ?_⟩
    intro H1 as1 l1 s1 hl1 hat1 n1
    have s2 := same_upd (o := .lst (as1.map V.ref)) n1
    refine ⟨_, rfl, fun H3 as2 l2 s3 hl2 hat2 n2 => ?_⟩
    have s4 := same_upd (o := .lst (as2.map V.ref)) n2
    refine ⟨l1, l2, _, _, rfl, rfl, s4 _ _ (s3 _ _ upd_same), upd_same, by rw [List.length_map, List.length_map, hl1, hl2]; decide, fun l3 n3 => ?_⟩
    have s5 := same_upd (o := .lst (as1.map V.ref ++ as2.map V.ref)) n3
    have S13 := ((s2.trans s3).trans s4).trans s5
    have S := s1.trans S13
    have S35 := s4.trans s5
    have hat : ∀ (i : Nat) a r, (as1 ++ as2)[i]? = some a → (rows1 ++ rows2)[i]? = some r → RowH K (upd (upd H3 l2 (.lst (as2.map V.ref))) l3 (.lst (as1.map V.ref ++ as2.map V.ref))) a r := fun i a r ha hr => by
      by_cases hi : i < as1.length
      · rw [List.getElem?_append_left hi] at ha
        rw [List.getElem?_append_left (by rw [← hl1]; exact hi)] at hr
        exact (hat1 i a r ha hr).same S13
      · rw [List.getElem?_append_right (by omega)] at ha
        rw [List.getElem?_append_right (by rw [← hl1]; omega), ← hl1] at hr
        exact (hat2 _ a r ha hr).same S35
    have hll : (as1 ++ as2).length = (rows1 ++ rows2).length := by rw [List.length_append, List.length_append, hl1, hl2]
    have hap : as1.map V.ref ++ as2.map V.ref = (as1 ++ as2).map V.ref := List.map_append.symm
    rw [hap] at S hat ⊢
    generalize hH5 : upd (upd H3 l2 (.lst (as2.map V.ref))) l3 (.lst ((as1 ++ as2).map V.ref)) = H5 at S hat ⊢
    have h3 : H5 l3 = some (.lst ((as1 ++ as2).map V.ref)) := by rw [← hH5]; exact upd_same
    refine ⟨_, rfl, l3, rfl, ⟨_, SqL.of h3⟩, for_list (K := K) (a := l3) (xs := (as1 ++ as2).map V.ref) (fun i σ H6 => (∃ v1 v2 v3, σ = [some (.ref l3), v1, v2, v3]) ∧ Same H5 H6) ⟨⟨_, _, _, rfl⟩, Same.refl _⟩ (fun i σ H6 _ ⟨_, s6⟩ => SqL.of (s6 _ _ h3)) ?_ ?_⟩
    · rintro i y σ H6 hi ⟨⟨v1, v2, v3, rfl⟩, s6⟩
      obtain ⟨a, ha, rfl⟩ := map_get hi
      have hi2 : i < (rows1 ++ rows2).length := by rw [← hll]; exact (List.getElem?_eq_some_iff.mp ha).1
      obtain ⟨r, hr⟩ : ∃ r, (rows1 ++ rows2)[i]? = some r := ⟨_, List.getElem?_eq_getElem hi2⟩
      obtain ⟨p, hT, hA⟩ := (hat i a r ha hr).same s6
      obtain ⟨g0, g1, g2, g3, g4, g5, g6⟩ := rows_good r (List.mem_of_getElem? hr)
      have G : GoodA r.1 r.2.1 := ⟨g1, g2, g3, g4, g5⟩
      have fa := fine_a G g6
      have fd : Fine (.list [.str (aText r.1 r.2.1), aData r.1 r.2.1]) 3 80000 := (Fine.list (.cons ((fine_at G g6).mono (Nat.zero_le 2) (Nat.le_refl _)) (.cons fa .nil))).mono (Nat.le_refl _) (by omega : 20000 + 1 + (50000 + 1 + 0) ≤ 80000)
      rw [g0] at hT
      refine ⟨a, _, rfl, hT, rfl, _, _, rfl, _, _, rfl, rfl, ?_⟩
      refine ⟨_, rfl, p, r.1, r.2.1, rfl, hA, G, fun n h => Nat.lt_of_lt_of_le (g6 n h) pow31, fun _ H7 s7 => ?_, fun hB => ?_⟩
      · refine ⟨_, rfl, r.1, r.2.1, rfl, G, g6, fun H8 q s8 A8 => ?_⟩
        refine ⟨by show 2 ≤ sizeLine; decide, fun m1 k1 => ⟨_, rfl, _, rfl, by show 2 ≤ sizeLine; decide, fun m2 k2 => ?_⟩⟩
        have s9 := same_upd (o := .lst [.str (aText r.1 r.2.1), .ref q]) k1
        have s10 := same_upd (o := .lst [.str (aText r.1 r.2.1), .ref p]) k2
        refine ⟨m1, m2, .list [.str (aText r.1 r.2.1), aData r.1 r.2.1], rfl, .lst (SqL.of (s10 _ _ upd_same)) (.cons (.str _) (.cons (dp_arr (A8.same (s9.trans s10))) .nil)), .lst (SqL.of upd_same) (.cons (.str _) (.cons (dp_arr (hA.same (((s7.trans s8).trans s9).trans s10))) .nil)),
          fd.sh, fd.nd, Nat.le_trans fd.dp (by decide), fd.out (by decide), _, rfl, iteF ⟨⟨_, _, _, rfl⟩, (((s6.trans s7).trans s8).trans s9).trans s10⟩⟩
      · obtain ⟨n, h, hb⟩ := hB
        have := fit_small g6 n h
        omega
    · rintro σ H6 ⟨⟨v1, v2, v3, rfl⟩, s6⟩
      have two : 2 ≤ sizeLine := by decide
      refine ⟨two, fun p1 q1 => ⟨two, fun p2 q2 => ⟨two, fun p3 q3 => ⟨by show 3 ≤ sizeLine; decide, fun p4 q4 => ⟨two, fun p5 q5 => ⟨p5, _, rfl, SqT.of upd_same, rfl, _, _, rfl, _, _, rfl, rfl, ?_⟩⟩⟩⟩⟩⟩
      have z1 := same_upd (o := .tup [.str wAny, .bl true]) q1
      have z2 := same_upd (o := .tup [.str wNone, .bl false]) q2
      have z3 := same_upd (o := .tup [.str wOnce, .bl true]) q3
      have z4 := same_upd (o := .tup [.ref p1, .ref p2, .ref p3]) q4
      have z5 := same_upd (o := .tup [.ref p4, .str (("any unit none bare once unit" : String) : Str)]) q5
      have Z := ((z1.trans z2).trans (z3.trans z4)).trans z5
      have hC : Cus K (upd (upd (upd (upd H6 p1 (.tup [.str wAny, .bl true])) p2 (.tup [.str wNone, .bl false])) p3 (.tup [.str wOnce, .bl true])) p4 (.tup [.ref p1, .ref p2, .ref p3])) p4 handC := by
        refine ⟨[p1, p2, p3], SqT.of upd_same, rfl, fun i a c ha hc => ?_⟩
        match i, ha, hc with
        | 0, ha, hc =>
          obtain rfl := Option.some.inj ha
          obtain rfl := Option.some.inj hc
          exact SqT.of (z4 _ _ (z3 _ _ (z2 _ _ upd_same)))
        | 1, ha, hc =>
          obtain rfl := Option.some.inj ha
          obtain rfl := Option.some.inj hc
          exact SqT.of (z4 _ _ (z3 _ _ upd_same))
        | 2, ha, hc =>
          obtain rfl := Option.some.inj ha
          obtain rfl := Option.some.inj hc
          exact SqT.of (z4 _ _ upd_same)
        | i + 3, ha, hc => simp at ha
      refine ⟨_, rfl, p4, handC, rfl, hC.same z5, handC_good, fun H7 s7 => ?_⟩
      refine ⟨_, rfl, rfl, _, rfl, ?_⟩
      have e1 : decide (V.str (cText handC) = V.str (("any unit none bare once unit" : String) : Str)) = true := decide_eq_true (by rw [handC_text])
      refine if_true_of e1 ?_
      refine ⟨_, rfl, handC, congrArg (fun z => [V.str z]) handC_text, handC_good, fun H8 q s8 C8 => ?_⟩
      have fc := (fine_c handC_good).shaped (by decide)
      refine ⟨_, rfl, cData handC, cData handC, dp_cus C8, dp_cus ((hC.same z5).same (s7.trans s8)), fc, fc, ?_⟩
      rw [SeqAt.eqv_refl _ (fine_c handC_good).ly]
      exact k _ (((S.trans s6).trans Z).trans (s7.trans s8))
end
end K67
/-! law. -/
namespace K67
open PySem PySem.Spec PyProof.Rows L2 TL LamX
/-! ### what is known -/
def Thing.data : Thing → PyData
  | .arr sh its => aData sh its
  | .cus cs => cData cs
theorem Thing.shown_data (t : Thing) : t.data.shown = t.rep := by cases t <;> rfl
def kvsOf (ts : List Thing) : List (Key × V) := ts.map fun t => (Sum.inr t.text, V.str t.rep)
def Good (ts : List Thing) : Prop := (∀ t ∈ ts, t.ok) ∧ ts.Nodup
theorem val_known : ∀ {ts : List Thing}, (∀ t ∈ ts, t.ok) → ∀ {t : Thing}, t.ok → (t ∈ ts ∧ valV (kvsOf ts) (Sum.inr t.text) = some (.str t.rep)) ∨ (t ∉ ts ∧ valV (kvsOf ts) (Sum.inr t.text) = none)
  | [], _, t, _ => .inr ⟨List.not_mem_nil, rfl⟩
  | u :: ts, h, t, ht => by
    by_cases e : u.text = t.text
    · have eq : u = t := text_inj (h u (List.mem_cons_self ..)) ht e
      subst eq
      exact .inl ⟨List.mem_cons_self .., valV_pos (p := ((Sum.inr u.text : Key), V.str u.rep)) (r := kvsOf ts) rfl⟩
    · have ne : ¬ ((Sum.inr u.text : Key) = Sum.inr t.text) := fun z => e (Sum.inr.inj z)
      have hv := valV_neg (p := ((Sum.inr u.text : Key), V.str u.rep)) (r := kvsOf ts) ne
      rcases val_known (fun x hx => h x (List.mem_cons_of_mem _ hx)) ht with ⟨m, v⟩ | ⟨m, v⟩
      · exact .inl ⟨List.mem_cons_of_mem _ m, hv.trans v⟩
      · refine .inr ⟨fun hm => ?_, hv.trans v⟩
        rcases List.mem_cons.mp hm with z | z
        · exact e (by rw [z])
        · exact m z
theorem put_known {ts : List Thing} (h : ∀ t ∈ ts, t.ok) {t : Thing} (ht : t.ok) (hm : t ∈ ts) (hv : valV (kvsOf ts) (Sum.inr t.text) = some (.str t.rep)) : putK (kvsOf ts) (Sum.inr t.text) (.str t.rep) = kvsOf ts := by
  unfold putK
  rw [valV_any, hv, if_pos (show (some (V.str t.rep)).isSome = true from rfl)]
  refine (List.map_congr_left fun kv hkv => ?_).trans (List.map_id _)
  obtain ⟨u, hu, rfl⟩ := List.mem_map.mp hkv
  by_cases e : (Sum.inr u.text : Key) = Sum.inr t.text
  · have eq : u = t := text_inj (h u hu) ht (Sum.inr.inj e)
    rw [if_pos e, eq]
    rfl
  · rw [if_neg e]
    rfl
theorem put_new {ts : List Thing} {t : Thing} (hv : valV (kvsOf ts) (Sum.inr t.text) = none) : putK (kvsOf ts) (Sum.inr t.text) (.str t.rep) = kvsOf (ts ++ [t]) := by
  rw [putK_new _ hv]
  unfold kvsOf
  rw [List.map_append]
  rfl
theorem Good.snoc {ts : List Thing} (g : Good ts) {t : Thing} (ht : t.ok) (hm : t ∉ ts) : Good (ts ++ [t]) := by
  refine ⟨fun x hx => ?_, ?_⟩
  · rcases List.mem_append.mp hx with z | z
    · exact g.1 x z
    · rw [List.mem_singleton.mp z]; exact ht
  · rw [List.nodup_append]
    exact ⟨g.2, by simp, fun a ha b hb => by
      rw [List.mem_singleton.mp hb]
      exact fun z => hm (by rw [← z]; exact ha)⟩
theorem Good.reps {ts : List Thing} (g : Good ts) : (ts.map Thing.rep).Nodup := by
  obtain ⟨h, nd⟩ := g
  induction ts with
  | nil => simp
  | cons t r ih =>
    rw [List.map_cons, List.nodup_cons]
    rw [List.nodup_cons] at nd
    refine ⟨fun hm => ?_, ih (fun x hx => h x (List.mem_cons_of_mem _ hx)) nd.2⟩
    obtain ⟨u, hu, e⟩ := List.mem_map.mp hm
    have := rep_inj (h u (List.mem_cons_of_mem _ hu)) (h t (List.mem_cons_self ..)) e
    exact nd.1 (by rw [← this]; exact hu)
/-- the thing t at a -/
structure ThingAt (K : PySem.W.Frag) (H : Hp) (a : Addr) (t : Thing) : Prop where
  at_ : Dp K H (.ref a) t.data
  fine : Fine t.data 2 50000
  ok : t.ok
mutual
theorem Dp.tr {K : PySem.W.Frag} {H H' : Hp} (hL : ∀ a xs, SqL K H a xs → SqL K H' a xs) (hT : ∀ a xs, SqT K H a xs → SqT K H' a xs) : ∀ {v : V} {d : PyData}, Dp K H v d → Dp K H' v d
  | _, _, .non => .non
  | _, _, .bl b => .bl b
  | _, _, .int i => .int i
  | _, _, .str x => .str x
  | _, _, .lst h t => .lst (hL _ _ h) (DpAll.tr hL hT t)
  | _, _, .tup h t => .tup (hT _ _ h) (DpAll.tr hL hT t)
theorem DpAll.tr {K : PySem.W.Frag} {H H' : Hp} (hL : ∀ a xs, SqL K H a xs → SqL K H' a xs) (hT : ∀ a xs, SqT K H a xs → SqT K H' a xs) : ∀ {vs : List V} {ds : List PyData}, DpAll K H vs ds → DpAll K H' vs ds
  | _, _, .nil => .nil
  | _, _, .cons h t => .cons (Dp.tr hL hT h) (DpAll.tr hL hT t)
end
section
variable {K : PySem.W.Frag} {H H' : Hp} {kn : Addr} {kvs : List (Key × V)}
theorem But.seqL (b : But kn H H') (hk : H kn = some (.dK kvs)) {a : Addr} {xs : List V} (h : SqL K H a xs) : SqL K H' a xs := by
  rcases h with (h | ⟨o, h⟩) | h
  · exact .inl (.inl (b _ _ h (ne_of h hk (by intro z; cases z))))
  · exact .inl (.inr ⟨o, b _ _ h (ne_of h hk (by intro z; cases z))⟩)
  · exact .inr h
theorem But.seqT (b : But kn H H') (hk : H kn = some (.dK kvs)) {a : Addr} {xs : List V} (h : SqT K H a xs) : SqT K H' a xs := by
  rcases h with (h | ⟨o, h⟩) | h
  · exact .inl (.inl (b _ _ h (ne_of h hk (by intro z; cases z))))
  · exact .inl (.inr ⟨o, b _ _ h (ne_of h hk (by intro z; cases z))⟩)
  · exact .inr h
theorem But.dp (b : But kn H H') (hk : H kn = some (.dK kvs)) {v : V} {d : PyData} (h : Dp K H v d) : Dp K H' v d := K67.Dp.tr (fun _ _ => b.seqL hk) (fun _ _ => b.seqT hk) h
theorem But.dr (b : But kn H H') (hk : H kn = some (.dK kvs)) {m c g : Addr} {N : Int} (hm : m ≠ kn) (d : Dr m c g N H) : Dr m c g N H' := by
  obtain ⟨n, cs, gs, h1, h2, h3, h4, h5, h6, h7, h8⟩ := d.ex
  exact ⟨n, cs, gs, h1, h2, b _ _ h3 hm, b _ _ h4 (ne_of h4 hk (by intro z; cases z)), h5, b _ _ h6 (ne_of h6 hk (by intro z; cases z)), h7, h8⟩
theorem But.tabs (b : But kn H H') (hk : H kn = some (.dK kvs)) {T : List (Addr × Str)} (h : Tabs T H) : Tabs T H' := fun p hp => by
  obtain ⟨ps, e1, e2, e3⟩ := h p hp
  refine ⟨ps, b _ _ e1 (ne_of e1 hk (by intro z; cases z)), e2, fun pos cv hc => ?_⟩
  obtain ⟨co, e4, e5⟩ := e3 pos cv hc
  exact ⟨co, e4, b _ _ e5 (ne_of e5 hk (by intro z; unfold CodeO at z; cases z))⟩
end
/-- the law's turn: i turns made -/
structure StL (K : PySem.W.Frag) (TP a m c g kn ch : Addr) (i : Nat) (σ : L2.St) (H : Hp) : Prop where
  sl : ∃ v4 v5 v6 v7 v8, σ = [some (.ref a), some (.ref m), some (.ref kn), some (.ref ch), v4, v5, v6, v7, v8, none]
  dr : Dr m c g (80 * (i : Int)) H
  kn : ∃ ts, H kn = some (.dK (kvsOf ts)) ∧ Good ts ∧ ts.length ≤ 2 * i
  ch : H ch = some (.lst (chain.map V.str))
  tb : Tabs [(TP, q62)] H
def spLaw (K : PySem.W.Frag) (TP : Addr) : Sp := fun vs H Q _ => ∃ (a : Addr) (ns : List Int), vs = [.ref a] ∧ SqL K H a (ns.map V.int) ∧ ns.length ≤ 63 ∧ Tabs [(TP, q62)] H ∧ ∀ H', Q (.bl true) H'
section
variable {P : Program} {w : World} {K : PySem.W.Frag} {mg : Str → Option Value} {base : Heap} {C fI W : Addr}
abbrev N65 : List Str := ["_law_script", "_law_m", "_law_known", "_law_chain_so", "_law_turn", "_law_array", "_law_customs", "_law_text", "_law_thing", "_law_k"]
theorem sc65 : FnScope N65 ["_law_script"] (defScope (top 65)) := ⟨rfl, rfl, rfl, by decide +kernel, rfl, by decide +kernel, by decide +kernel⟩
theorem ok65 (T : Txt P w K mg C fI W) {cc TP : Addr} (D62 : DfC K mg "_law_array_right" (top 62) ["_law_m", "_law_array"] cc) (TB : TabB base mg cc TP) {f : Addr} {fd : FuncData} (F : Fun K "law" "law" (top 65) f fd) : FnG P w K mg base 12 f fd ["_law_script"] (spLaw K TP) := by
  refine okG F sc65 (fun vs H Q E h => ?_) (fun cdv A outer s H vs Q hg hr h => ?_)
  · obtain ⟨a, ns, rfl, _⟩ := h
    rfl
  · obtain ⟨a, ns, rfl, hs, hl, hT, k⟩ := h
    have hu := hu_of hr
    refine ⟨_, pss_cons (ps_if (pt_not (pt_val (pe_fG0 (pm64 T) (guards_deeper _ hg) (hr.mono (by decide))))) (pss_one (ps_ret pe_bl)) pss_nil)
      (pss_cons (ps_asg (pe_tup (pa_cons (pe_f (pm53 T) (hr.mono (by decide)) pass0 (pa_cons (pv 0) pa_nil)) (pa_cons pe_dnewK pa_nil))) (pg_tup rfl (pgs_cons (pg_name (i := 1) sc65.nd rfl (Or.inr rfl)) (pgs_cons (pg_name (i := 2) sc65.nd rfl (Or.inl rfl)) pgs_nil))))
      (pss_cons (ps_set (i := 3) sc65.nd rfl (Or.inr rfl) (pe_lst (pa_cons pe_str (pa_cons pe_str (pa_cons pe_str (pa_cons pe_str pa_nil))))))
      (pss_cons (ps_for PassesOwn.never rfl (pi_range1 rfl T.nRange (pa_cons (pe_op op_add pe_int (pe_callB (call_min2 rfl) (by rfl) T.nMin (by decide +kernel) (pa_cons (pe_callB call_len (by rfl) T.nLen PySem.boot_len (pa_cons (pv 0) pa_nil)) (pa_cons pe_int pa_nil)))) pa_nil)) (pg_name (i := 4) sc65.nd rfl (Or.inl rfl))
        (pss_cons (ps_set (i := 5) sc65.nd rfl (Or.inl rfl) (pe_f (pm58 T) (hr.mono (by decide)) pass0 (pa_cons (pv 1) pa_nil)))
        (pss_cons (ps_if (pt_not (pt_val (pe_fG (pm62 T D62 TB) (guards_deeper _ hg) (hr.mono (by decide)) (pa_cons (pv 1) (pa_cons (pv 5) pa_nil))))) (pss_one (ps_ret pe_bl)) pss_nil)
        (pss_cons (ps_set (i := 6) sc65.nd rfl (Or.inl rfl) (pe_callTy call_tuple_of (by rfl) T.nTup (by decide +kernel) (pa_cons (pe_lc (own := [("_law_k", 9)]) (g := gName 9) (tt := tYes) rfl sc65.nd (pi_range1 rfl T.nRange (pa_cons pe_int pa_nil)) (blkOk_by (own := [("_law_k", 9)]) (N := N65) (sc := defScope (top 65)) (by decide +kernel))
            (fun _ _ _ _ _ => pg_name (i := 9) sc65.nd rfl (Or.inl rfl)) (fun _ _ _ _ _ => pts_nil) (fun _ _ _ _ _ => pe_tup (pa_cons (pe_ix (show IxR _ (rIxL K) from ix_list) (pv 3) (pe_f (pm52 T) (hr.mono (by decide)) pass0 (pa_cons (pv 1) (pa_cons pe_int pa_nil))) (fun _ _ => rfl)) (pa_cons (pe_cmp (pc_eqI (pe_f (pm52 T) (hr.mono (by decide)) pass0 (pa_cons (pv 1) (pa_cons pe_int pa_nil))) pe_int) rfl) pa_nil)))) pa_nil)))
        (pss_cons (ps_if (pt_not (pt_val (pe_fG (pm63 T) (guards_deeper _ hg) (hr.mono (by decide)) (pa_cons (pv 6) pa_nil)))) (pss_one (ps_ret pe_bl)) pss_nil)
        (pss_one (ps_for PassesOwn.never rfl (pi_tup (pe_tup (pa_cons (pe_tup (pa_cons (pe_f (pm43 T) (hr.mono (by decide)) passL (pa_cons (pv 5) pa_nil)) (pa_cons (pv 5) pa_nil))) (pa_cons (pe_tup (pa_cons (pe_f (pm44 T) (hr.mono (by decide)) pass0 (pa_cons (pv 6) pa_nil)) (pa_cons (pv 6) pa_nil))) pa_nil))))
            (pg_tup rfl (pgs_cons (pg_name (i := 7) sc65.nd rfl (Or.inl rfl)) (pgs_cons (pg_name (i := 8) sc65.nd rfl (Or.inl rfl)) pgs_nil)))
          (pss_cons (ps_if (pt_cmpR op_ne (pe_dget2 hu (pv 2) (pv 7) (pe_callB (call_reprD (guards_deeper _ hg) hr.units) (by rfl) T.nRepr (by decide +kernel) (pa_cons (pv 8) pa_nil)) ⟨rfl, rfl, rfl, rfl⟩) (pe_callB (call_reprD (guards_deeper _ hg) hr.units) (by rfl) T.nRepr (by decide +kernel) (pa_cons (pv 8) pa_nil)) (nomark _)) (pss_one (ps_ret pe_bl)) pss_nil)
          (pss_one (ps_dput hu (pv 2) (pv 7) (pe_callB (call_reprD (guards_deeper _ hg) hr.units) (by rfl) T.nRepr (by decide +kernel) (pa_cons (pv 8) pa_nil)) rfl))))))))))
      (pss_one (ps_ret (pe_cmpR op_eq (pe_lenSetT (by rfl) T.nLen (by rfl) T.nSet (pe_listVals (by rfl) T.nList (pv 2))) (pe_callB call_lenD (by rfl) T.nLen PySem.boot_len (pa_cons (pv 2) pa_nil)) (nomark _))))))), ?_⟩
    refine ⟨rfl, fun H1 s1 => ⟨_, rfl, iteF ?_⟩⟩
    refine ⟨_, rfl, a, ns, rfl, s1.seq hs, hl, fun H2 m c g s2 nm ng D2 => fun kn nkn => ⟨by show 2 ≤ sizeLine; decide, fun t0 nt0 => ⟨t0, _, rfl, SqT.of upd_same, rfl, _, _, rfl, _, _, rfl, rfl, ?_⟩⟩⟩
    refine ⟨by show 4 ≤ sizeLine; decide, fun ch nch => ?_⟩
    have z1 := same_upd (o := .dK []) nkn
    have z2 := same_upd (o := .tup [.ref m, .ref kn]) nt0
    have z3 := same_upd (o := .lst (chain.map V.str)) nch
    have Z := (z1.trans z2).trans z3
    have S3 : Same H _ := (s1.trans s2).trans Z
    have D3 := D2.same Z
    have T3 := hT.ext S3
    have nmk : m ≠ kn := (D2.new nkn).1.symm
    have nchg : ch ≠ g := ((D2.same (z1.trans z2)).new nch).2.2
    have hk3 := z3 _ _ (z2 _ _ (upd_same (H := H2) (a := kn) (o := .dK [])))
    refine ⟨_, rfl, _, _, rfl, .inl ⟨_, S3.seq hs, rfl⟩, _, _, rfl, _, _, rfl, rfl, _, rfl, ?_, ?_, ?_⟩
    · split <;> omega
    · rw [List.length_map]
      split <;> omega
    refine for_range (lo := 0) (fun i σ H4 => StL K TP a m c g kn ch i σ H4) ⟨⟨_, _, _, _, _, rfl⟩, D3, ⟨[], hk3, ⟨by simp, by simp⟩, Nat.le_refl _⟩, upd_same, T3⟩ ?_ ?_
    · rintro i σ H4 hi ⟨⟨v4, v5, v6, v7, v8, rfl⟩, D4, ⟨ts, hk4, gd, hlt⟩, hc4, T4⟩
      have hi70 : i < 100 := by
        rw [List.length_map] at hi
        split at hi <;> omega
      -- an array
      refine ⟨_, rfl, m, c, g, _, rfl, D4, by omega, fun H5 p sh its A5 G hn D5 k5 => ?_⟩
      have T5 := D4.tabs k5 T4
      have fit : Fit its := fit_small hn
      have hn100 : ∀ n ∈ its, n.natAbs < 10 ^ 100 := fun n h => Nat.lt_of_lt_of_le (hn n h) pow31
      refine ⟨_, rfl, _, rfl, m, c, g, _, p, sh, its, rfl, D5, by omega, A5, G, hn, T5, fun H6 D6 k6 T6 => ⟨_, rfl, iteF ?_⟩⟩
      have A6 := D5.arr k6 A5
      have dk : ∀ H, Dr m c g (80 * (i : Int)) H → ∀ kvs, H kn = some (.dK kvs) → kn ≠ g := fun H d kvs hk => by
        obtain ⟨n, cs, gs, h1, h2, h3, h4, h5, h6, h7, h8⟩ := d.ex
        exact ne_of hk h6 (by intro z; cases z)
      have dc : ∀ H, Dr m c g (80 * (i : Int)) H → H ch = some (.lst (chain.map V.str)) → ch ≠ m := fun H d hc => by
        obtain ⟨n, cs, gs, h1, h2, h3, h4, h5, h6, h7, h8⟩ := d.ex
        exact ne_of hc h3 (by intro z; cases z)
      have nkg := dk H4 D4 _ hk4
      have ncm := dc H4 D4 hc4
      have hk6 := k6 _ _ (k5 _ _ hk4 nmk.symm nkg) nmk.symm nkg (by intro ps z; cases z)
      have hc6 := k6 _ _ (k5 _ _ hc4 ncm nchg) ncm nchg (by intro ps z; cases z)
      -- customs
      refine ⟨3, rfl, by decide, by decide, fun Dn nD => ?_⟩
      obtain ⟨q1, q2, q3⟩ := D6.new nD
      refine lc_range (lo := 0) (n := 3) (fun j H7 => ∃ (as : List Addr) (cs : List (Str × Bool)), H7 Dn = some (.lst (as.map V.ref)) ∧ as.length = j ∧ cs.length = j ∧ (∀ x ∈ cs, x.1 ∈ chain) ∧ Made H7 as cs ∧ Dr m c g (80 * (i : Int) + 62 + 2 * (j : Int)) H7 ∧ Kp m g H6 H7)
        ⟨[], [], upd_same, rfl, rfl, by simp, fun l x y hx _ => by simp at hx, (D6.mono (by omega)).same (same_upd nD), Kp.of (same_upd nD)⟩ ?_ ?_
      · rintro j H7 hj ⟨as, cs, hD7, ha, hcs, hch, M7, D7, k7⟩
        refine ⟨rfl, _, rfl, _, rfl, m, c, g, _, 4, rfl, by decide, by decide, D7, by omega, fun H8 r r0 r1 D8 k8 => ?_⟩
        obtain ⟨rn, rfl⟩ := Int.eq_ofNat_of_zero_le r0
        have hrl : rn < chain.length := by show rn < 4; omega
        obtain ⟨x, hx⟩ : ∃ x, chain[rn]? = some x := ⟨_, List.getElem?_eq_getElem hrl⟩
        have hc8 := k8 _ _ (k7 _ _ hc6 ncm nchg) ncm nchg
        refine ⟨ch, _, _, _, rfl, rfl, SqL.of hc8, at_of (j := rn) (v := .str x) rfl (by rw [List.getElem?_map, hx]; rfl), ?_⟩
        refine ⟨_, rfl, m, c, g, _, 2, rfl, by decide, by decide, D8, by omega, fun H9 r2 a2 b2 D9 k9 => ⟨_, _, rfl, rfl, by show 2 ≤ sizeLine; decide, fun q nq => ?_⟩⟩
        have hD9 := k9 _ _ (k8 _ _ hD7 q1 q3) q1 q3
        have K9 := (k7.trans k8).trans k9
        have nqD : q ≠ Dn := (ne_of_none hD9 nq).symm
        obtain ⟨e1, e2, e3⟩ := D9.new nq
        have nH6q : H6 q = none := K9.free nq e1 e3
        obtain ⟨bb, hbb⟩ : ∃ b : Bool, b = decide (r2 = 0) := ⟨_, rfl⟩
        refine ⟨_, (by rw [upd_ne nqD.symm]; exact hD9), ?_, as ++ [q], cs ++ [(x, decide (r2 = 0))], ?_, ?_, ?_, ?_, ?_, ?_, ?_⟩
        · rw [List.length_map, ha]
          exact Nat.lt_trans hj (by decide)
        · rw [upd_same, List.map_append]
          rfl
        · rw [List.length_append, ha]; rfl
        · rw [List.length_append, hcs]; rfl
        · intro y hy
          rcases List.mem_append.mp hy with h | h
          · exact hch y h
          · rw [List.mem_singleton.mp h]; exact List.mem_of_getElem? hx
        · intro l y cy hy hcy
          by_cases hl : l < as.length
          · rw [List.getElem?_append_left hl] at hy
            rw [List.getElem?_append_left (by rw [hcs, ← ha]; exact hl)] at hcy
            have m7 := M7 l y cy hy hcy
            obtain ⟨n, cs', gs, h1, h2, h3, h4, h5, h6, h7, h8⟩ := D7.ex
            have y1 : y ≠ m := ne_of m7 h3 (by intro z; cases z)
            have y2 : y ≠ g := ne_of m7 h6 (by intro z; cases z)
            have m9 := k9 _ _ (k8 _ _ m7 y1 y2) y1 y2
            rw [upd_ne (ne_of m9 hD9 (by intro z; cases z)), upd_ne (ne_of_none m9 nq)]
            exact m9
          · have hl2 : l = as.length := by
              have := (List.getElem?_eq_some_iff.mp hy).1
              rw [List.length_append] at this
              simp at this
              omega
            subst hl2
            rw [List.getElem?_append_right (Nat.le_refl _), Nat.sub_self] at hy
            rw [List.getElem?_append_right (by omega), show as.length - cs.length = 0 from by omega] at hcy
            obtain rfl := Option.some.inj hy
            obtain rfl := Option.some.inj hcy
            rw [upd_ne nqD]
            exact upd_same
        · have eN : 80 * (i : Int) + 62 + 2 * ((j + 1 : Nat) : Int) = 80 * (i : Int) + 62 + 2 * (j : Int) + 1 + 1 := by omega
          rw [eN]
          exact (D9.same (same_upd nq)).upd q1 q2 q3
        · exact (K9.updR nH6q).updR nD
      · rintro H7 ⟨as, cs, hD7, ha, hcs, hch, M7, D7, k7⟩
        have GC : GoodC cs := ⟨hcs, hch⟩
        refine ⟨Dn, _, rfl, .inl ⟨SqL.of hD7, fun t nt => ?_⟩⟩
        have s8 := same_upd (o := .tup (as.map V.ref)) nt
        have C8 : Cus K (upd H7 t (.tup (as.map V.ref))) t cs := ⟨as, SqT.of upd_same, by rw [ha, hcs], fun l y cy hy hcy => SqT.of (s8 _ _ (M7 l y cy hy hcy))⟩
        refine ⟨_, rfl, t, cs, rfl, C8, GC, fun H9 s9 => ⟨_, rfl, iteF ?_⟩⟩
        have S9 := s8.trans s9
        have A9 := (D6.arr (KpT.of k7) A6).same S9
        -- both told
        refine ⟨_, rfl, p, sh, its, rfl, A9, G, hn100, fun _ H10 s10 => ?_, fun hB => ?_⟩
        · refine ⟨_, rfl, by show 2 ≤ sizeLine; decide, fun b1 m1 => ?_⟩
          have s11 := same_upd (o := .tup [.str (aText sh its), .ref p]) m1
          refine ⟨_, rfl, t, cs, rfl, C8.same ((s9.trans s10).trans s11), GC, fun H12 s12 => ?_⟩
          refine ⟨_, rfl, by show 2 ≤ sizeLine; decide, fun b2 m2 => ?_⟩
          have s13 := same_upd (o := .tup [.str (cText cs), .ref t]) m2
          refine ⟨by show 2 ≤ sizeLine; decide, fun tp ntp => ?_⟩
          have s14 := same_upd (o := .tup [.ref b1, .ref b2]) ntp
          have S14 := (((s10.trans s11).trans s12).trans s13).trans s14
          have S714 := S9.trans S14
          obtain ⟨H14, eH14⟩ : ∃ H14, H14 = upd (upd H12 b2 (.tup [.str (cText cs), .ref t])) tp (.tup [.ref b1, .ref b2]) := ⟨_, rfl⟩
          have hb1 : H14 b1 = some (.tup [.str (aText sh its), .ref p]) := by rw [eH14]; exact s14 _ _ (s13 _ _ (s12 _ _ upd_same))
          have hb2 : H14 b2 = some (.tup [.str (cText cs), .ref t]) := by rw [eH14]; exact s14 _ _ upd_same
          have htp : H14 tp = some (.tup [.ref b1, .ref b2]) := by rw [eH14]; exact upd_same
          rw [← eH14] at S714 S14
          have A14 : Arr K H14 p sh its := A9.same S14
          have C14 : Cus K H14 t cs := C8.same (s9.trans S14)
          have hk14 : H14 kn = some (.dK (kvsOf ts)) := S714 _ _ (k7 _ _ hk6 nmk.symm nkg)
          have hc14 : H14 ch = some (.lst (chain.map V.str)) := S714 _ _ (k7 _ _ hc6 ncm nchg)
          have D14 : Dr m c g (80 * ((i + 1 : Nat) : Int)) H14 := (D7.same S714).mono (by omega)
          have T14 : Tabs [(TP, q62)] H14 := (D6.tabs k7 T6).ext S714
          rw [← eH14]
          clear eH14 s14
          have things : ∀ (j : Nat) (y : V), ([V.ref b1, V.ref b2] : List V)[j]? = some y → ∃ (q aT : Addr) (th : Thing), y = .ref q ∧ H14 q = some (.tup [.str th.text, .ref aT]) ∧ ThingAt K H14 aT th := fun j y hy => by
            match j, hy with
            | 0, hy =>
              obtain rfl := Option.some.inj hy
              exact ⟨b1, p, .arr sh its, rfl, hb1, dp_arr A14, fine_a G hn, trivial⟩
            | 1, hy =>
              obtain rfl := Option.some.inj hy
              exact ⟨b2, t, .cus cs, rfl, hb2, dp_cus C14, (fine_c GC).mono (Nat.le_refl _) (by decide), GC⟩
            | j + 2, hy => simp at hy
          refine ⟨tp, rfl, ⟨_, SqT.of htp⟩, for_tup (K := K) (a := tp) (xs := [.ref b1, .ref b2]) (fun j σ H15 => (∃ v7 v8, σ = [some (.ref a), some (.ref m), some (.ref kn), some (.ref ch), some (.int (0 + (i : Int))), some (.ref p), some (.ref t), v7, v8, none]) ∧ But kn H14 H15 ∧ ∃ ts', H15 kn = some (.dK (kvsOf ts')) ∧ Good ts' ∧ ts'.length ≤ 2 * i + j)
            ⟨⟨_, _, rfl⟩, But.refl kn H14, ts, hk14, gd, hlt⟩ (fun j σ H15 _ ⟨_, b15, _⟩ => b15.seqT hk14 (SqT.of htp)) ?_ ?_⟩
          · rintro j y σ H15 hy ⟨⟨v7', v8', rfl⟩, b15, ts', hk15, gd', hl'⟩
            obtain ⟨q, aT, th, rfl, hq, TA⟩ := things j y hy
            have hj2 : j < 2 := (List.getElem?_eq_some_iff.mp hy).1
            have dpT : Dp K H15 (.ref aT) th.data := b15.dp hk14 TA.at_
            have fn := TA.fine
            have esh := th.shown_data
            refine ⟨q, _, rfl, b15.seqT hk14 (SqT.of hq), rfl, _, _, rfl, _, _, rfl, rfl, ?_⟩
            have main : ∀ o : Option V, DGet H15 kn (.str th.text) o → o.getD (.str th.rep) = .str th.rep → ∀ ts2, putK (kvsOf ts') (Sum.inr th.text) (.str th.rep) = kvsOf ts2 → Good ts2 → ts2.length ≤ 2 * i + (j + 1) → True := fun _ _ _ _ _ _ _ => trivial
            obtain ⟨o, ho, hod, ts2, hp2, gd2, hl2⟩ : ∃ (o : Option V), DGet H15 kn (.str th.text) o ∧ o.getD (.str th.rep) = .str th.rep ∧ ∃ ts2, putK (kvsOf ts') (Sum.inr th.text) (.str th.rep) = kvsOf ts2 ∧ Good ts2 ∧ ts2.length ≤ 2 * i + (j + 1) := by
              rcases val_known gd'.1 TA.ok with ⟨hm, hv⟩ | ⟨hm, hv⟩
              · exact ⟨some (.str th.rep), dget (k := Sum.inr th.text) hk15 hv, rfl, ts', put_known gd'.1 TA.ok hm hv, gd', by omega⟩
              · refine ⟨none, ?_, rfl, ts' ++ [th], put_new hv, gd'.snoc TA.ok hm, by rw [List.length_append]; show ts'.length + 1 ≤ _; omega⟩
                rw [← hv]
                exact DGet.k (k := Sum.inr th.text) hk15
            clear main
            refine ⟨_, rfl, kn, rfl, .inl ⟨_, .inl hk15⟩, _, rfl, _, rfl, aT, th.data, rfl, dpT, fn.sh, fn.nd, Nat.le_trans fn.dp (by decide), fn.out (by decide), o, ho, ?_⟩
            rw [esh, hod]
            refine ⟨_, rfl, aT, th.data, rfl, dpT, fn.sh, fn.nd, Nat.le_trans fn.dp (by decide), fn.out (by decide), rfl, _, rfl, ?_⟩
            rw [esh]
            refine iteNS rfl ?_
            refine ⟨_, rfl, aT, th.data, rfl, dpT, fn.sh, fn.nd, Nat.le_trans fn.dp (by decide), fn.out (by decide), ?_⟩
            rw [esh]
            have ksz : (kvsOf ts').length < sizeLine := by
              unfold kvsOf
              rw [List.length_map]
              exact Nat.lt_of_le_of_lt (show ts'.length ≤ 1000 by omega) (by decide)
            refine ⟨_, rfl, _, rfl, kn, _, rfl, DPut.k (k := Sum.inr th.text) hk15 ksz, ⟨_, _, rfl⟩, fun b o e nb => ?_, ts2, ?_, gd2, hl2⟩
            · rw [upd_ne nb]
              exact b15 b o e nb
            · rw [upd_same, hp2]
          · rintro σ H15 ⟨⟨v7', v8', rfl⟩, b15, ts', hk15, gd', hl'⟩
            exact ⟨⟨_, _, _, _, _, rfl⟩, b15.dr hk14 nmk D14, ⟨ts', hk15, gd', hl'⟩, b15 _ _ hc14 (ne_of hc14 hk14 (by intro z; cases z)), b15.tabs hk14 T14⟩
        · obtain ⟨n, h, hb⟩ := hB
          have := fit n h
          omega
    · rintro σ H4 ⟨⟨v4, v5, v6, v7, v8, rfl⟩, D4, ⟨ts, hk4, gd, hlt⟩, hc4, T4⟩
      have hlen : ts.length ≤ 200 := by
        rw [List.length_map] at hlt
        split at hlt <;> omega
      refine ⟨_, rfl, kn, _, rfl, hk4, fun l nl' => ?_⟩
      have em : (kvsOf ts).map (·.2) = (ts.map Thing.rep).map V.str := by
        unfold kvsOf
        rw [List.map_map, List.map_map]
        rfl
      rw [em]
      refine ⟨l, ts.map Thing.rep, rfl, SqL.of upd_same, ?_, gd.reps, ?_⟩
      · rw [List.length_map]
        exact Nat.lt_of_le_of_lt (show ts.length + 1 ≤ 201 by omega) (by decide)
      · refine ⟨_, rfl, kn, _, rfl, by rw [upd_ne (ne_of_none hk4 nl')]; exact hk4, rfl, ?_⟩
        have ed : decide (V.int ((ts.map Thing.rep).length : Nat) = V.int ((kvsOf ts).length : Nat)) = true := decide_eq_true (by
          unfold kvsOf
          rw [List.length_map, List.length_map])
        show Q (.bl (decide (V.int ((ts.map Thing.rep).length : Nat) = V.int ((kvsOf ts).length : Nat)))) _
        rw [ed]
        exact k _
end
end K67
namespace K67
open PySem PySem.Spec PyProof.Rows L2 TL LamX
/-- how the arguments of a def come to its parameters -/
abbrev BO (x qual : Str) (st : Stmt) (ps : List Str) : Prop := ∀ (kV doc pm : Value) (an : Option Addr) (cdv ct : Value) (us : List Value), us.length = ps.length → bindArgs (PySem.W.fnOf x qual (defArgs st) (defBody st) (defScope st) .none kV doc pm an cdv ct) ⟨us, []⟩ = pure (ps.zip us)
theorem bo8 : BO "is_whole" "is_whole" (top 8) ["value"] := fun _ _ _ _ _ _ us hl => match us, hl with | [_], _ => rfl
theorem bo9 : BO "is_within" "is_within" (top 9) ["value", "least", "most"] := fun _ _ _ _ _ _ us hl => match us, hl with | [_, _, _], _ => rfl
theorem bo10 : BO "is_tuple_of" "is_tuple_of" (top 10) ["value", "many"] := fun _ _ _ _ _ _ us hl => match us, hl with | [_, _], _ => rfl
theorem bo11 : BO "product" "product" (top 11) ["numbers"] := fun _ _ _ _ _ _ us hl => match us, hl with | [_], _ => rfl
theorem bo12 : BO "first_bad" "first_bad" (top 12) ["things", "is_good"] := fun _ _ _ _ _ _ us hl => match us, hl with | [_, _], _ => rfl
theorem bo17 : BO "is_one_side" "is_one_side" (top 17) ["value"] := fun _ _ _ _ _ _ us hl => match us, hl with | [_], _ => rfl
theorem bo18 : BO "lasting_product" "lasting_product" (top 18) ["sides"] := fun _ _ _ _ _ _ us hl => match us, hl with | [_], _ => rfl
theorem bo19 : BO "is_shape" "is_shape" (top 19) ["value"] := fun _ _ _ _ _ _ us hl => match us, hl with | [_], _ => rfl
theorem bo20 : BO "need_array" "need_array" (top 20) ["array"] := fun _ _ _ _ _ _ us hl => match us, hl with | [_], _ => rfl
theorem bo23 : BO "is_habit" "is_habit" (top 23) ["value"] := fun _ _ _ _ _ _ us hl => match us, hl with | [_], _ => rfl
theorem bo24 : BO "need_customs" "need_customs" (top 24) ["customs"] := fun _ _ _ _ _ _ us hl => match us, hl with | [_], _ => rfl
theorem bo32 : BO "figures_of" "figures_of" (top 32) ["number"] := fun _ _ _ _ _ _ us hl => match us, hl with | [_], _ => rfl
theorem bo33 : BO "integer_by_word" "integer_by_word" (top 33) ["word"] := fun _ _ _ _ _ _ us hl => match us, hl with | [_], _ => rfl
theorem bo34 : BO "text_rows" "text_rows" (top 34) ["text"] := fun _ _ _ _ _ _ us hl => match us, hl with | [_], _ => rfl
theorem bo35 : BO "lone_word_row" "lone_word_row" (top 35) ["text"] := fun _ _ _ _ _ _ us hl => match us, hl with | [_], _ => rfl
theorem bo36 : BO "need_text_end" "need_text_end" (top 36) ["row", "beyond"] := fun _ _ _ _ _ _ us hl => match us, hl with | [_, _], _ => rfl
theorem bo41 : BO "integer_words" "integer_words" (top 41) ["numbers"] := fun _ _ _ _ _ _ us hl => match us, hl with | [_], _ => rfl
theorem bo42 : BO "array_words" "array_words" (top 42) ["array"] := fun _ _ _ _ _ _ us hl => match us, hl with | [_], _ => rfl
theorem bo43 : BO "array_text" "array_text" (top 43) ["array"] := fun _ _ _ _ _ _ us hl => match us, hl with | [_], _ => rfl
theorem bo44 : BO "customs_text" "customs_text" (top 44) ["customs"] := fun _ _ _ _ _ _ us hl => match us, hl with | [_], _ => rfl
theorem bo45 : BO "array_taken" "array_taken" (top 45) ["row"] := fun _ _ _ _ _ _ us hl => match us, hl with | [_], _ => rfl
theorem bo46 : BO "customs_taken" "customs_taken" (top 46) ["row"] := fun _ _ _ _ _ _ us hl => match us, hl with | [_], _ => rfl
theorem bo47 : BO "read_array" "read_array" (top 47) ["text"] := fun _ _ _ _ _ _ us hl => match us, hl with | [_], _ => rfl
theorem bo48 : BO "read_customs" "read_customs" (top 48) ["text"] := fun _ _ _ _ _ _ us hl => match us, hl with | [_], _ => rfl
theorem bo50 : BO "_law_mixed" "_law_mixed" (top 50) ["_law_cell", "_law_n"] := fun _ _ _ _ _ _ us hl => match us, hl with | [_, _], _ => rfl
theorem bo51 : BO "_law_folded" "_law_folded" (top 51) ["_law_script"] := fun _ _ _ _ _ _ us hl => match us, hl with | [_], _ => rfl
theorem bo52 : BO "_law_draw" "_law_draw" (top 52) ["_law_m", "_law_limit"] := fun _ _ _ _ _ _ us hl => match us, hl with | [_, _], _ => rfl
theorem bo53 : BO "_law_begun" "_law_begun" (top 53) ["_law_script"] := fun _ _ _ _ _ _ us hl => match us, hl with | [_], _ => rfl
theorem bo54 : BO "_law_like" "_law_like" (top 54) ["_law_got", "_law_due"] := fun _ _ _ _ _ _ us hl => match us, hl with | [_, _], _ => rfl
theorem bo55 : BO "_law_of" "_law_of" (top 55) ["_law_m", "_law_some"] := fun _ _ _ _ _ _ us hl => match us, hl with | [_, _], _ => rfl
theorem bo56 : BO "_law_many" "_law_many" (top 56) ["_law_shape"] := fun _ _ _ _ _ _ us hl => match us, hl with | [_], _ => rfl
theorem bo57 : BO "_law_integer" "_law_integer" (top 57) ["_law_m"] := fun _ _ _ _ _ _ us hl => match us, hl with | [_], _ => rfl
theorem bo58 : BO "_law_wide_array" "_law_wide_array" (top 58) ["_law_m"] := fun _ _ _ _ _ _ us hl => match us, hl with | [_], _ => rfl
theorem bo59 : BO "_law_array_due" "_law_array_due" (top 59) ["_law_array"] := fun _ _ _ _ _ _ us hl => match us, hl with | [_], _ => rfl
theorem bo60 : BO "_law_customs_due" "_law_customs_due" (top 60) ["_law_customs"] := fun _ _ _ _ _ _ us hl => match us, hl with | [_], _ => rfl
theorem bo61 : BO "_law_heard" "_law_heard" (top 61) ["_law_call"] := fun _ _ _ _ _ _ us hl => match us, hl with | [_], _ => rfl
theorem bo62 : BO "_law_array_right" "_law_array_right" (top 62) ["_law_m", "_law_array"] := fun _ _ _ _ _ _ us hl => match us, hl with | [_, _], _ => rfl
theorem bo63 : BO "_law_customs_right" "_law_customs_right" (top 63) ["_law_customs"] := fun _ _ _ _ _ _ us hl => match us, hl with | [_], _ => rfl
theorem bo64 : BO "_law_hand_right" "_law_hand_right" (top 64) ([] : List Str) := fun _ _ _ _ _ _ us hl => match us, hl with | [], _ => rfl
theorem bo65 : BO "law" "law" (top 65) ["_law_script"] := fun _ _ _ _ _ _ us hl => match us, hl with | [_], _ => rfl
theorem bo_mInit : BO "__init__" "WordRow.__init__" (inClass (top 37) 0) ["self", "line", "text"] := fun _ _ _ _ _ _ us hl => match us, hl with | [_, _, _], _ => rfl
theorem bo_mAhead : BO "word_ahead" "WordRow.word_ahead" (inClass (top 37) 1) ["self"] := fun _ _ _ _ _ _ us hl => match us, hl with | [_], _ => rfl
theorem bo_mRead : BO "word_read" "WordRow.word_read" (inClass (top 37) 3) ["self"] := fun _ _ _ _ _ _ us hl => match us, hl with | [_], _ => rfl
theorem bo_mTold : BO "take_told" "WordRow.take_told" (inClass (top 37) 4) ["self", "some"] := fun _ _ _ _ _ _ us hl => match us, hl with | [_, _], _ => rfl
theorem bo_mMark : BO "take_mark" "WordRow.take_mark" (inClass (top 37) 6) ["self", "mark"] := fun _ _ _ _ _ _ us hl => match us, hl with | [_, _], _ => rfl
theorem bo_mInte : BO "take_integer" "WordRow.take_integer" (inClass (top 37) 9) ["self"] := fun _ _ _ _ _ _ us hl => match us, hl with | [_], _ => rfl
theorem bo_mNeed : BO "need_row_end" "WordRow.need_row_end" (inClass (top 37) 12) ["self"] := fun _ _ _ _ _ _ us hl => match us, hl with | [_], _ => rfl
section
variable {w : World} {K : PySem.W.Frag} {h : Heap} {mg : Str → Option Value}
theorem gl_some {x : Str} {v : Value} (KX : K.In h) (G : h.Ns mainGlobals mg) (a : PySem.W.nsIn K mainGlobals x = some (some v)) : mg x = some v := PySem.W.mg_of KX G a
theorem gl_none {x : Str} (KX : K.In h) (G : h.Ns mainGlobals mg) (a : PySem.W.nsIn K mainGlobals x = some none) : mg x = none := PySem.W.mg_none_of KX G a
theorem df_of {x : Str} {st : Stmt} {ps : List Str} {f : Addr} {oc : Value} {od an : Option Addr} {osl : Array (Option Value)} {kV doc pm cdv ct : Value} (KX : K.In h) (G : h.Ns mainGlobals mg) (b : BO x x st ps) (a : PySem.W.nsIn K mainGlobals x = some (some (.ref f)))
    (l : K.lookup f = some ⟨oc, od, .func (PySem.W.fnOf x x (defArgs st) (defBody st) (defScope st) .none kV doc pm an cdv ct), osl⟩) (c : PySem.W.codeIn K cdv x = true) (k : PySem.W.keepIn K (.ref f) = true) : Df K mg x st ps := df_mk (gl_some KX G a) l c k b
theorem dfc_of {x : Str} {st : Stmt} {ps : List Str} {f co : Addr} {oc : Value} {od an : Option Addr} {osl : Array (Option Value)} {kV doc pm ct : Value} (KX : K.In h) (G : h.Ns mainGlobals mg) (b : BO x x st ps) (a : PySem.W.nsIn K mainGlobals x = some (some (.ref f)))
    (l : K.lookup f = some ⟨oc, od, .func (PySem.W.fnOf x x (defArgs st) (defBody st) (defScope st) .none kV doc pm an (.ref co) ct), osl⟩) (c : PySem.W.codeIn K (.ref co) x = true) (k : PySem.W.keepIn K (.ref f) = true) : DfC K mg x st ps co :=
  ⟨f, oc, od, kV, doc, pm, an, ct, osl, l, c, k, gl_some KX G a, (fun_mk l c k).binds b⟩
theorem kt_of {x : Str} {ws : List Str} {a : Addr} {ob : Obj} {its : Array Value} {n : Nat} (KX : K.In h) (G : h.Ns mainGlobals mg) (a1 : PySem.W.nsIn K mainGlobals x = some (some (.ref a))) (a2 : K.lookup a = some ob) (a3 : ob.cls = .type "tuple")
    (a4 : ob.data = .seq its n) (a5 : its.size ≤ sizeLine) (a6 : Vals (ws.map V.str) its.toList) : ∃ a, mg x = some (.ref a) ∧ KTexts K a ws := ⟨a, gl_some KX G a1, fun H => .inr ⟨ob, its, n, a2, a3, a4, a5, a6⟩⟩
theorem lis_of {aL : Addr} {es : Array DictEntry} {n : Nat} {u : Value} (KX : K.In h) (G : h.Ns mainGlobals mg) (a1 : PySem.W.nsIn K mainGlobals "LISTED" = some (some (.ref aL))) (a2 : K.lookup aL = some ⟨.type "dict", none, .dict es n, #[]⟩)
    (a3 : PySem.W.KeysLit w.params es.toList) (a4 : PySem.W.nsIn K aL "lay" = some (some u)) (a5 : RelV (.int 4) u) : ∃ a, mg "LISTED" = some (.ref a) ∧ KDct K w a "lay" (.int 4) := ⟨aL, gl_some KX G a1, es, n, u, a2, a3, a4, a5⟩
theorem exm_own {C : Addr} (h1 : PySem.W.subIn K (.ref C) (.type "BaseException") = some true) (h2 : PySem.W.isClsIn K C = true) (h3 : PySem.W.typeIn K (.ref C) = some (.type "type")) (h4 : PySem.W.subIn K (.ref C) (.ref C) = some true) : PySem.W.exmOne K (.ref C) (.ref C) = some true := by
  have z : (PySem.W.clsIn K C).isSome = true := h2
  unfold PySem.W.exmOne
  simp [PySem.W.kitCls, h1, h3, h4, z]
theorem great_of {P : Program} {C fI cda cc : Addr} {nm q : Str} {N : Addr} {bs bm : List Value} {sn : List Str} {sub : List Value} {ab : Bool} {col : Option Bool} {dd : Option Addr} {k0 k1 k2 k3 k5 : Option Value} {od1 an1 : Option Addr} {sl1 : Array (Option Value)} {oc1 dc1 pm1 ct1 : Value}
    {cl ccl : Value} {cld cdd : Option Addr} {csl ccs : Array (Option Value)} {vs : Array Value} {file : Str} {tf : Tok} (KX : K.In h) (G : h.Ns mainGlobals mg)
    (aC : PySem.W.nsIn K mainGlobals "TooGreat" = some (some (.ref C))) (xL : K.lookup C = some (excClassObj nm q C N bs bm true sn sub ab col dd k0 k1 k2 k3 k5 "ValueError.__new__")) (rV : PySem.HandSPX.refsVE bm = true)
    (sa : PySem.W.findIn K (.ref C) "__setattr__" = some (some (.builtin "object.__setattr__"))) (ga : PySem.W.findIn K (.ref C) "__getattribute__" = some (some (.builtin "BaseException.__getattribute__"))) (gg : PySem.W.findIn K (.ref C) "__getattr__" = some none)
    (noN : PySem.W.findIn K (.ref C) "most" = some none) (iC : PySem.W.findIn K (.ref C) "__init__" = some (some (.ref fI))) (tC : PySem.W.typeIn K (.ref fI) = some (.type "function")) (kC : PySem.W.keepIn K (.ref C) = true)
    (exC : PySem.W.subIn K (.ref C) (.type "BaseException") = some true) (veC : PySem.W.subIn K (.ref C) (.type "ValueError") = some true) (meC : PySem.W.mroIn K C (.ref C) = some true) (suC : PySem.W.ks_superIn K C C "__init__" = some (some (.builtin "ValueError.__init__")))
    (tyC : PySem.W.typeIn K (.ref C) = some (.type "type")) (hdC : PySem.W.hasDictIn K C = true) (clC : PySem.W.isClsIn K C = true) (sbC : PySem.W.subIn K (.ref C) (.ref C) = some true) (opq : PySem.W.nsIn K cStatics "thirdparty.any" = some none) (nsu : PySem.W.nsIn K mainGlobals "super" = some none)
    (tp : (P.main.scope.names.lookup ("super" : Str)).isSome = false) (l1 : K.lookup fI = some ⟨oc1, od1, .func (PySem.W.ksFn "__init__" "TooGreat.__init__" gA gB gS .none .none dc1 pm1 an1 (.ref cda) ct1 cc), sl1⟩) (c1 : PySem.W.codeIn K (.ref cda) "TooGreat.__init__" = true)
    (ce : K.lookup cc = some ⟨cl, cld, .cell (some (.ref C)), csl⟩) (co : K.lookup cda = some ⟨ccl, cdd, .fields vs, ccs⟩) (v2 : vs[2]? = some (.str file tf)) (fi : ((P.main.file : Str) == file) = true) : GreatTxt P K mg C fI :=
  { gC := gl_some KX G aC, gS := gl_none KX G nsu, cls := ⟨nm, q, N, bs, bm, sn, sub, ab, col, dd, k0, k1, k2, k3, k5, xL, rV⟩, sa := sa, ga := ga, gg := gg, noN := noN, iC := iC, tC := tC, kC := kC, exC := exC, veC := veC, meC := meC, suC := suC, tyC := tyC, hdC := hdC,
    te := exm_own exC clC tyC sbC, opq := opq, top := tp, fn := ⟨oc1, od1, dc1, pm1, an1, cda, cc, ct1, sl1, l1, c1, ⟨cl, cld, csl, ce⟩, ccl, cdd, vs, ccs, file, tf, co, v2, fi⟩ }
theorem row_of {C : Addr} (KX : K.In h) (G : h.Ns mainGlobals mg) (a : PySem.W.nsIn K mainGlobals "WordRow" = some (some (.ref C))) (pg : PySem.W.plainGet K C Str.empty = true) (hd : PySem.W.hasDictIn K C = true) (po : PySem.W.plainOver K C = true)
    (sa : PySem.W.findIn K (.ref C) "__setattr__" = some (some (.builtin "object.__setattr__"))) (mk : PySem.W.makesIn K C = true) (kc : PySem.W.keepIn K (.ref C) = true) : Cls K C ∧ mg "WordRow" = some (.ref C) ∧ PySem.W.keepIn K (.ref C) = true ∧ PySem.W.makesIn K C = true := ⟨⟨pg, hd, po, sa⟩, gl_some KX G a, kc, mk⟩
theorem na_of {C : Addr} {x : Str} (_KX : K.In h) (_a : PySem.W.nsIn K mainGlobals "WordRow" = some (some (.ref C))) (n : PySem.W.findIn K (.ref C) x = some none) : NoAttr K C x := n
theorem dm_of {m qual : Str} {st : Stmt} {ps : List Str} {C f : Addr} {oc : Value} {od an : Option Addr} {osl : Array (Option Value)} {kV doc pm cdv ct : Value} (_KX : K.In h) (b : BO m qual st ps) (_a : PySem.W.nsIn K mainGlobals "WordRow" = some (some (.ref C))) (a : PySem.W.findIn K (.ref C) m = some (some (.ref f)))
    (i : PySem.W.isFn K (.ref f) = true) (l : K.lookup f = some ⟨oc, od, .func (PySem.W.fnOf m qual (defArgs st) (defBody st) (defScope st) .none kV doc pm an cdv ct), osl⟩) (c : PySem.W.codeIn K cdv qual = true) (k : PySem.W.keepIn K (.ref f) = true) : Dm K C m qual st ps := dm_mk a i l c k b
/-- all facts together: what the law's end asks -/
theorem end_of {l : PySem.W.OpenLaw} {fa fl C fI W cc TP : Addr} {oc : Value} {od an : Option Addr} {osl : Array (Option Value)} {kV doc pm cdv ct : Value} (KX : K.In h) (G : h.Ns mainGlobals mg) (hmg : mg "law" = some (.ref fa)) (T : Txt l.prog w K mg C fI W)
    (D62 : DfC K mg "_law_array_right" (top 62) ["_law_m", "_law_array"] cc) (a : PySem.W.nsIn K mainGlobals "law" = some (some (.ref fl)))
    (lk : K.lookup fl = some ⟨oc, od, .func (PySem.W.fnOf "law" "law" (defArgs (top 65)) (defBody (top 65)) (defScope (top 65)) .none kV doc pm an cdv ct), osl⟩) (hcd : PySem.W.codeIn K cdv "law" = true) (kp : PySem.W.keepIn K (.ref fl) = true)
    (hT : h.get? TP = some tab0) (nT : K.lookup TP = none) (hC : PySem.W.codeHdIn K cc TP = true) :
    ∃ (fd : FuncData) (c T : Addr) (sp : Sp), h.get? T = some tab0 ∧ K.lookup T = none ∧ PySem.W.CodeHd h c T ∧ (∀ (s : Shared) (u : Value), BindsTo s fd ⟨[u], []⟩ [("_law_script", u)]) ∧
      (∀ (H : Hp) (a : Addr) (ns : List Int), ns.length ≤ 63 → (∀ z ∈ ns, Builtin.Int.intBits z ≤ 1048576) → H T = some (.tbl #[]) → SqL K H a (ns.map V.int) → sp [.ref a] H (fun v _ => v = .bl true) E0) ∧
      ∀ base : Heap, K.In base → base.Ns mainGlobals mg → TabB base mg c T → FnG l.prog w K mg base 12 fa fd ["_law_script"] sp := by
  have e := hmg.symm.trans (gl_some KX G a)
  cases e
  refine ⟨PySem.W.fnOf "law" "law" (defArgs (top 65)) (defBody (top 65)) (defScope (top 65)) .none kV doc pm an cdv ct, cc, TP, spLaw K TP, hT, nT, PySem.W.codeHd_of_K KX hC, fun s u => .of_eq (bo65 _ _ _ _ _ _ [u] rfl), fun H a ns hl _ ht hs => ⟨a, ns, rfl, hs, hl, fun p hp => ?_, fun _ => rfl⟩, fun base _ _ TB => ok65 T D62 TB (fun_mk lk hcd kp)⟩
  rw [List.mem_singleton.mp hp]
  exact TabS.nil ht
end
end K67
open PySem PySem.W PyProof.Rows
set_option maxRecDepth 100000 in
set_option maxHeartbeats 0 in
theorem PySem.Challenge.cw_openverbs_k67_whole_texts_of_arrays_and_holds : PySem.Challenge.rw_openverbs_k67_whole_texts_of_arrays_and.Holds := by
  w_on; o_law; k_head; (case hw => w_witness2)
  k_fill
  refine K67.walkG (l := PySem.Challenge.rw_openverbs_k67_whole_texts_of_arrays_and) (n := 63) (k := 12) (x := "_law_script") rfl (by decide) rfl ⟨rfl, by decide, by decide⟩ (fun w h Y => PySem.W.km_in_of Y) ?F
  case F =>
    intro w mg fa h Y KX G hmg
    have gr := K67.great_of (P := PySem.Challenge.rw_openverbs_k67_whole_texts_of_arrays_and.prog) KX G (by k_is) (by k_is) (by decide +kernel) (by k_is) (by k_is) (by k_is) (by k_is) (by k_is) (by k_is) (by k_is) (by k_is) (by k_is) (by k_is) (by ks_is) (by k_is) (by k_is) (by k_is) (by first | rfl | k_is) (by k_is) (by k_is) (by decide +kernel) (by k_is) (by k_is) (by k_is) (by k_is) (by rfl) (by decide +kernel)
    have n_isinstance := K67.gl_none (x := "isinstance") KX G (by k_is)
    have n_int := K67.gl_none (x := "int") KX G (by k_is)
    have n_bool := K67.gl_none (x := "bool") KX G (by k_is)
    have n_str := K67.gl_none (x := "str") KX G (by k_is)
    have n_tuple := K67.gl_none (x := "tuple") KX G (by k_is)
    have n_len := K67.gl_none (x := "len") KX G (by k_is)
    have n_enumerate := K67.gl_none (x := "enumerate") KX G (by k_is)
    have n_abs := K67.gl_none (x := "abs") KX G (by k_is)
    have n_all := K67.gl_none (x := "all") KX G (by k_is)
    have n_any := K67.gl_none (x := "any") KX G (by k_is)
    have n_range := K67.gl_none (x := "range") KX G (by k_is)
    have n_list := K67.gl_none (x := "list") KX G (by k_is)
    have n_set := K67.gl_none (x := "set") KX G (by k_is)
    have n_repr := K67.gl_none (x := "repr") KX G (by k_is)
    have n_min := K67.gl_none (x := "min") KX G (by k_is)
    have c_MOST_SIDES := K67.gl_some (x := "MOST_SIDES") (v := .int 4 _) KX G (by k_is)
    have c_MOST_SIDE := K67.gl_some (x := "MOST_SIDE") (v := .int 400 _) KX G (by k_is)
    have c_MOST_ITEMS := K67.gl_some (x := "MOST_ITEMS") (v := .int 400 _) KX G (by k_is)
    have c_MOST_FIGURES := K67.gl_some (x := "MOST_FIGURES") (v := .int 31 _) KX G (by k_is)
    have c_MOST_WORDS := K67.gl_some (x := "MOST_WORDS") (v := .int 60 _) KX G (by k_is)
    have c_BLANK := K67.gl_some (x := "BLANK") (v := .str K67.sp _) KX G (by k_is)
    have c_ROW_END := K67.gl_some (x := "ROW_END") (v := .str K67.nl _) KX G (by k_is)
    have c_FIGURES := K67.gl_some (x := "FIGURES") (v := .str ("0123456789" : String) _) KX G (by k_is)
    have t_CUSTOM_WORDS_habits := K67.kt_of (x := "CUSTOM_WORDS_habits") (ws := K67.chain) KX G (by k_is) (by k_is) (by rfl) (by rfl) (by decide +kernel) (by exact .cons ⟨_, rfl⟩ (.cons ⟨_, rfl⟩ (.cons ⟨_, rfl⟩ (.cons ⟨_, rfl⟩ (.nil)))))
    have t_CUSTOM_WORDS_texts := K67.kt_of (x := "CUSTOM_WORDS_texts") (ws := K67.chain) KX G (by k_is) (by k_is) (by rfl) (by rfl) (by decide +kernel) (by exact .cons ⟨_, rfl⟩ (.cons ⟨_, rfl⟩ (.cons ⟨_, rfl⟩ (.cons ⟨_, rfl⟩ (.nil)))))
    have t_UNIT_WORDS := K67.kt_of (x := "UNIT_WORDS") (ws := [K67.uW false, K67.uW true]) KX G (by k_is) (by k_is) (by rfl) (by rfl) (by decide +kernel) (by exact .cons ⟨_, rfl⟩ (.cons ⟨_, rfl⟩ (.nil)))
    have c_LISTED := K67.lis_of (w := w) KX G (by k_is) (by k_is) (by exact ⟨⟨_, _, rfl, rfl⟩, ⟨_, _, rfl, rfl⟩, ⟨_, _, rfl, rfl⟩, trivial⟩) (by k_is) (by exact ⟨_, rfl⟩)
    have row := K67.row_of KX G (by k_is) (by k_is) (by k_is) (by k_is) (by k_is) (by k_is) (by k_is)
    have a_line := K67.na_of (x := "line") KX (by k_is) (by k_is)
    have a_words := K67.na_of (x := "words") KX (by k_is) (by k_is)
    have a_at := K67.na_of (x := "at") KX (by k_is) (by k_is)
    have a_told := K67.na_of (x := "told") KX (by k_is) (by k_is)
    have a_deep := K67.na_of (x := "deep") KX (by k_is) (by k_is)
    have mInit := K67.dm_of KX K67.bo_mInit (by k_is) (by k_is) (by k_is) (by k_is) (by k_is) (by k_is)
    have mAhead := K67.dm_of KX K67.bo_mAhead (by k_is) (by k_is) (by k_is) (by k_is) (by k_is) (by k_is)
    have mRead := K67.dm_of KX K67.bo_mRead (by k_is) (by k_is) (by k_is) (by k_is) (by k_is) (by k_is)
    have mTold := K67.dm_of KX K67.bo_mTold (by k_is) (by k_is) (by k_is) (by k_is) (by k_is) (by k_is)
    have mMark := K67.dm_of KX K67.bo_mMark (by k_is) (by k_is) (by k_is) (by k_is) (by k_is) (by k_is)
    have mInte := K67.dm_of KX K67.bo_mInte (by k_is) (by k_is) (by k_is) (by k_is) (by k_is) (by k_is)
    have mNeed := K67.dm_of KX K67.bo_mNeed (by k_is) (by k_is) (by k_is) (by k_is) (by k_is) (by k_is)
    have d8 := K67.df_of KX G K67.bo8 (by k_is) (by k_is) (by k_is) (by k_is)
    have d9 := K67.df_of KX G K67.bo9 (by k_is) (by k_is) (by k_is) (by k_is)
    have d10 := K67.df_of KX G K67.bo10 (by k_is) (by k_is) (by k_is) (by k_is)
    have d11 := K67.df_of KX G K67.bo11 (by k_is) (by k_is) (by k_is) (by k_is)
    have d12 := K67.df_of KX G K67.bo12 (by k_is) (by k_is) (by k_is) (by k_is)
    have d17 := K67.df_of KX G K67.bo17 (by k_is) (by k_is) (by k_is) (by k_is)
    have d18 := K67.df_of KX G K67.bo18 (by k_is) (by k_is) (by k_is) (by k_is)
    have d19 := K67.df_of KX G K67.bo19 (by k_is) (by k_is) (by k_is) (by k_is)
    have d20 := K67.df_of KX G K67.bo20 (by k_is) (by k_is) (by k_is) (by k_is)
    have d23 := K67.df_of KX G K67.bo23 (by k_is) (by k_is) (by k_is) (by k_is)
    have d24 := K67.df_of KX G K67.bo24 (by k_is) (by k_is) (by k_is) (by k_is)
    have d32 := K67.df_of KX G K67.bo32 (by k_is) (by k_is) (by k_is) (by k_is)
    have d33 := K67.df_of KX G K67.bo33 (by k_is) (by k_is) (by k_is) (by k_is)
    have d34 := K67.df_of KX G K67.bo34 (by k_is) (by k_is) (by k_is) (by k_is)
    have d35 := K67.df_of KX G K67.bo35 (by k_is) (by k_is) (by k_is) (by k_is)
    have d36 := K67.df_of KX G K67.bo36 (by k_is) (by k_is) (by k_is) (by k_is)
    have d41 := K67.df_of KX G K67.bo41 (by k_is) (by k_is) (by k_is) (by k_is)
    have d42 := K67.df_of KX G K67.bo42 (by k_is) (by k_is) (by k_is) (by k_is)
    have d43 := K67.df_of KX G K67.bo43 (by k_is) (by k_is) (by k_is) (by k_is)
    have d44 := K67.df_of KX G K67.bo44 (by k_is) (by k_is) (by k_is) (by k_is)
    have d45 := K67.df_of KX G K67.bo45 (by k_is) (by k_is) (by k_is) (by k_is)
    have d46 := K67.df_of KX G K67.bo46 (by k_is) (by k_is) (by k_is) (by k_is)
    have d47 := K67.df_of KX G K67.bo47 (by k_is) (by k_is) (by k_is) (by k_is)
    have d48 := K67.df_of KX G K67.bo48 (by k_is) (by k_is) (by k_is) (by k_is)
    have d50 := K67.df_of KX G K67.bo50 (by k_is) (by k_is) (by k_is) (by k_is)
    have d51 := K67.df_of KX G K67.bo51 (by k_is) (by k_is) (by k_is) (by k_is)
    have d52 := K67.df_of KX G K67.bo52 (by k_is) (by k_is) (by k_is) (by k_is)
    have d53 := K67.df_of KX G K67.bo53 (by k_is) (by k_is) (by k_is) (by k_is)
    have d54 := K67.df_of KX G K67.bo54 (by k_is) (by k_is) (by k_is) (by k_is)
    have d55 := K67.df_of KX G K67.bo55 (by k_is) (by k_is) (by k_is) (by k_is)
    have d56 := K67.df_of KX G K67.bo56 (by k_is) (by k_is) (by k_is) (by k_is)
    have d57 := K67.df_of KX G K67.bo57 (by k_is) (by k_is) (by k_is) (by k_is)
    have d58 := K67.df_of KX G K67.bo58 (by k_is) (by k_is) (by k_is) (by k_is)
    have d59 := K67.df_of KX G K67.bo59 (by k_is) (by k_is) (by k_is) (by k_is)
    have d60 := K67.df_of KX G K67.bo60 (by k_is) (by k_is) (by k_is) (by k_is)
    have d61 := K67.df_of KX G K67.bo61 (by k_is) (by k_is) (by k_is) (by k_is)
    have d62 := K67.df_of KX G K67.bo62 (by k_is) (by k_is) (by k_is) (by k_is)
    have d63 := K67.df_of KX G K67.bo63 (by k_is) (by k_is) (by k_is) (by k_is)
    have d64 := K67.df_of KX G K67.bo64 (by k_is) (by k_is) (by k_is) (by k_is)
    have d62c := K67.dfc_of KX G K67.bo62 (by k_is) (by k_is) (by k_is) (by k_is)
    exact K67.end_of (l := PySem.Challenge.rw_openverbs_k67_whole_texts_of_arrays_and) KX G hmg { great := gr, nIsi := n_isinstance, nInt := n_int, nBool := n_bool, nStr := n_str, nTup := n_tuple, nLen := n_len, nEnum := n_enumerate, nAbs := n_abs, nAll := n_all, nAny := n_any, nRange := n_range, nList := n_list, nSet := n_set, nRepr := n_repr, nMin := n_min, cSides := ⟨_, c_MOST_SIDES⟩, cSide := ⟨_, c_MOST_SIDE⟩, cItems := ⟨_, c_MOST_ITEMS⟩, cFigs := ⟨_, c_MOST_FIGURES⟩, cWords := ⟨_, c_MOST_WORDS⟩, cBlank := ⟨_, c_BLANK⟩, cEnd := ⟨_, c_ROW_END⟩, cDigits := ⟨_, c_FIGURES⟩, cHab := t_CUSTOM_WORDS_habits, cTex := t_CUSTOM_WORDS_texts, cUni := t_UNIT_WORDS, cLis := c_LISTED, row := row.1, gRow := row.2.1, kRow := row.2.2.1, mRow := row.2.2.2, aLine := a_line, aWords := a_words, aAt := a_at, aTold := a_told, aDeep := a_deep, mInit := mInit, mAhead := mAhead, mRead := mRead, mTold := mTold, mMark := mMark, mInte := mInte, mNeed := mNeed, d8 := d8, d9 := d9, d10 := d10, d11 := d11, d12 := d12, d17 := d17, d18 := d18, d19 := d19, d20 := d20, d23 := d23, d24 := d24, d32 := d32, d33 := d33, d34 := d34, d35 := d35, d36 := d36, d41 := d41, d42 := d42, d43 := d43, d44 := d44, d45 := d45, d46 := d46, d47 := d47, d48 := d48, d50 := d50, d51 := d51, d52 := d52, d53 := d53, d54 := d54, d55 := d55, d56 := d56, d57 := d57, d58 := d58, d59 := d59, d60 := d60, d61 := d61, d62 := d62, d63 := d63, d64 := d64 } d62c (by k_is) (by k_is) (by k_is) (by k_is) (PySem.W.km_tabs_of Y _ (List.mem_singleton.mpr rfl)) (by first | rfl | decide +kernel) (by first | rfl | decide +kernel | k_is)
