import PyProof.Rows.All
import Wide.All
import OpenK.AllK
import Wide.FinOn
import HandS.ForMost
import KE.IntTextLaws
import KE.KStateDown
import HandS.More
import HandS.Defaults
import HandS.ExcInit
import HandS.Head0
import HandS.Head1
import HandS.Head2
import HandS.HeadEnd
import HandS.HeadHook1
import HandS.HeadHook2
import HandS.HeadHook3
import PySem.Challenge.RW_quietbroom_k86_image_back_whole
import HandS.ForExc
import HandS.IsInst
import HandS.OwnEq
import HandS.Wide
import HandS.Style
import HandS.RaiseOp
import HandS.TryOnly
import HandS.ExcOwn
import HandS.Rev
import HandS.Walk
import HandS.WordsExc
import HandS.HeadNt
/-! Kmath1 -/
set_option Elab.async false
set_option linter.all false
set_option maxRecDepth 100000
set_option maxHeartbeats 1000000
/-! Texts as lists of code points: cut at a sign, numbers, words of memory, names. -/
namespace Qb
open PySem

abbrev T := List Nat
def S (t : T) : Str := ⟨t.toArray⟩
theorem tl_S (t : T) : TL.tl (S t) = t := rfl
theorem S_tl (x : Str) : S (TL.tl x) = x := TL.mk_tl x
theorem S_inj {a b : T} (h : S a = S b) : a = b := by
  have e := congrArg TL.tl h
  exact e
theorem S_len (t : T) : (S t).length = t.length := by rw [TL.len_tl, tl_S]
theorem S_append (a b : T) : S a ++ S b = S (a ++ b) := TL.ext_tl (by rw [TL.tl_append]; rfl)
def cs (s : String) : T := s.toList.map Char.toNat
theorem S_cs (s : String) : S (cs s) = Str.ofString s := TL.ext_tl (by rw [TL.tl_ofString]; rfl)

/-! ### cut -/
def cut (c : Nat) : T → List T
  | [] => [[]]
  | x :: r => if x = c then [] :: cut c r else match cut c r with
    | [] => [[x]]
    | p :: ps => (x :: p) :: ps
theorem cut_ne (c : Nat) : ∀ l : T, cut c l ≠ []
  | [] => by simp [cut]
  | x :: r => by
    unfold cut
    by_cases h : x = c
    · rw [if_pos h]; simp
    · rw [if_neg h]
      cases cut c r <;> simp
theorem cut_hit {c : Nat} {r : T} : cut c (c :: r) = [] :: cut c r := by
  show (if c = c then [] :: cut c r else _) = _
  rw [if_pos rfl]
theorem cut_miss {c x : Nat} {r p : T} {ps : List T} (h : x ≠ c) (e : cut c r = p :: ps) : cut c (x :: r) = (x :: p) :: ps := by
  show (if x = c then [] :: cut c r else _) = _
  rw [if_neg h, e]
theorem cut_cons (c : Nat) (l : T) : ∃ p ps, cut c l = p :: ps := by
  cases h : cut c l with
  | nil => exact absurd h (cut_ne c l)
  | cons p ps => exact ⟨p, ps, rfl⟩
theorem spl_cut (c : Nat) : ∀ (l acc p : T) (ps : List T), cut c l = p :: ps → TL.spl [c] 0 acc l = (acc ++ p) :: ps
  | [], acc, p, ps, h => by
    have h' : ([[]] : List T) = p :: ps := h
    injection h' with h1 h2
    subst h1 h2
    rw [TL.spl_nil, List.append_nil]
  | x :: r, acc, p, ps, h => by
    by_cases hx : x = c
    · subst hx
      rw [cut_hit] at h
      injection h with h1 h2
      subst h1
      obtain ⟨q, qs, e⟩ := cut_cons x r
      have hp : TL.pre [x] (x :: r) = true := by simp [TL.pre]
      rw [TL.spl_hit hp]
      show acc :: TL.spl [x] 0 [] r = _
      rw [spl_cut x r [] q qs e, List.nil_append, ← h2, e, List.append_nil]
    · obtain ⟨q, qs, e⟩ := cut_cons c r
      rw [cut_miss hx e] at h
      injection h with h1 h2
      subst h1 h2
      have hp : TL.pre [c] (x :: r) = false := TL.pre_of_head [] r hx
      rw [TL.spl_miss hp, spl_cut c r (acc ++ [x]) q qs e, List.append_assoc]
      rfl
theorem spl_eq_cut (c : Nat) (l : T) : TL.spl [c] 0 [] l = cut c l := by
  obtain ⟨p, ps, e⟩ := cut_cons c l
  rw [spl_cut c l [] p ps e, e, List.nil_append]
theorem joinL_cons {S p : T} {ps : List T} (h : ps ≠ []) : TL.joinL S (p :: ps) = p ++ (S ++ TL.joinL S ps) := by
  cases ps with
  | nil => exact absurd rfl h
  | cons q r => rfl
theorem join_cut (c : Nat) : ∀ l : T, TL.joinL [c] (cut c l) = l
  | [] => rfl
  | x :: r => by
    have ih := join_cut c r
    by_cases hx : x = c
    · subst hx
      rw [cut_hit, joinL_cons (cut_ne x r), ih]
      rfl
    · obtain ⟨q, qs, e⟩ := cut_cons c r
      rw [cut_miss hx e]
      rw [e] at ih
      cases qs with
      | nil =>
        have ih' : q = r := ih
        show x :: q = x :: r
        rw [ih']
      | cons q2 qs =>
        have ih' : q ++ ([c] ++ TL.joinL [c] (q2 :: qs)) = r := ih
        show x :: q ++ ([c] ++ TL.joinL [c] (q2 :: qs)) = x :: r
        rw [List.cons_append, ih']
theorem cut_free (c : Nat) : ∀ (l : T) (p : T), p ∈ cut c l → c ∉ p
  | [], p, h => by
    have h' : p ∈ ([[]] : List T) := h
    rw [List.mem_singleton.mp h']
    simp
  | x :: r, p, h => by
    have ih := cut_free c r
    by_cases hx : x = c
    · subst hx
      rw [cut_hit] at h
      rcases List.mem_cons.mp h with h | h
      · rw [h]; simp
      · exact ih p h
    · obtain ⟨q, qs, e⟩ := cut_cons c r
      rw [cut_miss hx e] at h
      rw [e] at ih
      rcases List.mem_cons.mp h with h | h
      · rw [h]
        intro hm
        rcases List.mem_cons.mp hm with z | z
        · exact hx z.symm
        · exact ih q (List.mem_cons_self ..) z
      · exact ih p (List.mem_cons_of_mem _ h)
theorem cut_last {c : Nat} : ∀ {p : T}, c ∉ p → cut c p = [p]
  | [], _ => rfl
  | x :: r, h => by
    have hx : x ≠ c := fun z => h (by rw [z]; exact List.mem_cons_self ..)
    have hr : c ∉ r := fun z => h (List.mem_cons_of_mem _ z)
    exact cut_miss hx (cut_last hr)
theorem cut_part {c : Nat} {r : T} : ∀ {p : T}, c ∉ p → cut c (p ++ (c :: r)) = p :: cut c r
  | [], _ => cut_hit
  | x :: q, h => by
    have hx : x ≠ c := fun z => h (by rw [z]; exact List.mem_cons_self ..)
    have hr : c ∉ q := fun z => h (List.mem_cons_of_mem _ z)
    exact cut_miss hx (cut_part hr)
theorem cut_join {c : Nat} : ∀ {ps : List T}, ps ≠ [] → (∀ p ∈ ps, c ∉ p) → cut c (TL.joinL [c] ps) = ps
  | [], h, _ => absurd rfl h
  | [p], _, h => cut_last (h p (List.mem_cons_self ..))
  | p :: q :: r, _, h => by
    rw [joinL_cons (by simp)]
    show cut c (p ++ (c :: TL.joinL [c] (q :: r))) = _
    rw [cut_part (h p (List.mem_cons_self ..)), cut_join (by simp) fun z hz => h z (List.mem_cons_of_mem _ hz)]

/-! ### numbers -/
abbrev AllD := NumText.AllDigits
abbrev dv := NumText.digitsVal
theorem dv_snoc (d : T) (x : Nat) : dv (d ++ [x]) = dv d * 10 + (x - 48) := by
  unfold dv NumText.digitsVal
  rw [List.foldl_append]
  rfl
theorem allD_iff (d : T) : AllD d ↔ ∀ c ∈ d, 48 ≤ c ∧ c ≤ 57 := Iff.rfl
theorem foldl_ge : ∀ (d : T) (a : Nat), a ≤ d.foldl (fun acc c => acc * 10 + (c - 48)) a
  | [], a => Nat.le_refl _
  | x :: r, a => by
    rw [List.foldl_cons]
    exact Nat.le_trans (by omega) (foldl_ge r _)
theorem dv_pos {x : Nat} {d : T} (h1 : 48 ≤ x) (h : x ≠ 48) : 1 ≤ dv (x :: d) := by
  unfold dv NumText.digitsVal
  rw [List.foldl_cons]
  exact Nat.le_trans (by omega) (foldl_ge d _)
theorem num_back : ∀ (n : Nat) (d : T), d.length = n → AllD d → d ≠ [] → (d = [48] ∨ d.head? ≠ some 48) → TL.numL (dv d) = d
  | 0, d, hl, _, hn, _ => absurd (List.eq_nil_of_length_eq_zero hl) hn
  | n + 1, d, hl, hd, hn, hh => by
    have e : d = d.dropLast ++ [d.getLast hn] := (List.dropLast_concat_getLast hn).symm
    generalize hx : d.getLast hn = x at e
    generalize hq : d.dropLast = q at e
    have hql : q.length = n := by rw [← hq, List.length_dropLast, hl]; rfl
    have hxd : 48 ≤ x ∧ x ≤ 57 := hd x (by rw [e]; simp)
    have hqd : AllD q := fun c hc => hd c (by rw [e]; exact List.mem_append_left _ hc)
    cases q with
    | nil =>
      have e2 : d = [x] := e
      rw [e2]
      have v : dv [x] = x - 48 := by
        have z := dv_snoc [] x
        have z0 : dv [] = 0 := rfl
        rw [z0] at z
        simpa using z
      rw [v, TL.numL_lt (by omega)]
      congr 1
      omega
    | cons y q =>
      have hy : y ≠ 48 := by
        rcases hh with hh | hh
        · rw [e] at hh
          simp at hh
        · intro z
          rw [e, z] at hh
          exact hh rfl
      have hyd := hqd y (List.mem_cons_self ..)
      have ih := num_back n (y :: q) hql hqd (by simp) (.inr (by
        intro z
        have z' : y = 48 := Option.some.inj z
        exact hy z'))
      have hp := dv_pos (d := q) hyd.1 hy
      rw [e, dv_snoc]
      rw [TL.numL_step (by omega)]
      have q1 : (dv (y :: q) * 10 + (x - 48)) / 10 = dv (y :: q) := by omega
      have q2 : 48 + (dv (y :: q) * 10 + (x - 48)) % 10 = x := by omega
      rw [q1, q2, ih]
theorem dv_lt : ∀ (n : Nat) (d : T), d.length = n → AllD d → dv d < 10 ^ n
  | 0, d, hl, _ => by
    rw [List.eq_nil_of_length_eq_zero hl]
    decide
  | n + 1, d, hl, hd => by
    have hn : d ≠ [] := by
      intro z
      rw [z] at hl
      cases hl
    have e : d = d.dropLast ++ [d.getLast hn] := (List.dropLast_concat_getLast hn).symm
    generalize hx : d.getLast hn = x at e
    generalize hq : d.dropLast = q at e
    have hql : q.length = n := by rw [← hq, List.length_dropLast, hl]; rfl
    have hxd : 48 ≤ x ∧ x ≤ 57 := hd x (by rw [e]; simp)
    have hqd : AllD q := fun c hc => hd c (by rw [e]; exact List.mem_append_left _ hc)
    have ih := dv_lt n q hql hqd
    rw [e, dv_snoc, Nat.pow_succ]
    omega
theorem numL_head : ∀ (n : Nat), 0 < n → (TL.numL n).head? ≠ some 48 := fun n => by
  induction n using Nat.strongRecOn with
  | _ n ih =>
    intro hn
    by_cases h : n < 10
    · rw [TL.numL_lt h]
      intro z
      have z' : 48 + n = 48 := Option.some.inj z
      omega
    · have i := ih (n / 10) (by omega) (by omega)
      rw [TL.numL_step (by omega)]
      have hne := TL.numL_ne (n / 10)
      cases e : TL.numL (n / 10) with
      | nil => exact absurd e hne
      | cons a r =>
        rw [e] at i
        exact i

/-- the text of an integer -/
def showI (n : Int) : T := if n < 0 then 45 :: TL.numL n.natAbs else TL.numL n.natAbs
theorem showI_neg {n : Int} (h : n < 0) : showI n = 45 :: TL.numL n.natAbs := if_pos h
theorem showI_nn {n : Int} (h : ¬ n < 0) : showI n = TL.numL n.natAbs := if_neg h
theorem showI_str (n : Int) : Str.ofString (toString n) = S (showI n) := by
  refine TL.ext_tl ?_
  rw [tl_S]
  by_cases h : n < 0
  · rw [showI_neg h]
    obtain ⟨m, rfl⟩ : ∃ m : Nat, n = Int.negSucc m := by
      cases n with
      | ofNat m => exact absurd h (by simp)
      | negSucc m => exact ⟨m, rfl⟩
    rw [TL.tl_ofString]
    have e : (toString (Int.negSucc m)) = "-" ++ toString ((m + 1 : Nat) : Int) := rfl
    have e2 := TL.tl_num (m + 1)
    rw [TL.tl_ofString] at e2
    rw [e, String.toList_append, List.map_append, e2]
    rfl
  · rw [showI_nn h]
    obtain ⟨m, rfl⟩ : ∃ m : Nat, n = (m : Int) := ⟨n.toNat, by omega⟩
    rw [TL.tl_num]
    rfl
theorem showI_cons (n : Int) : ∃ c r, showI n = c :: r ∧ (c = 45 ∨ (48 ≤ c ∧ c ≤ 57)) := by
  by_cases h : n < 0
  · exact ⟨_, _, showI_neg h, .inl rfl⟩
  · rw [showI_nn h]
    have hd := TL.numL_digits n.natAbs
    have hn := TL.numL_ne n.natAbs
    cases e : TL.numL n.natAbs with
    | nil => exact absurd e hn
    | cons c r =>
      rw [e] at hd
      exact ⟨c, r, rfl, .inr (hd c (List.mem_cons_self ..))⟩
theorem showI_mem {n : Int} {c : Nat} (h : c ∈ showI n) : c = 45 ∨ (48 ≤ c ∧ c ≤ 57) := by
  by_cases hn : n < 0
  · rw [showI_neg hn] at h
    rcases List.mem_cons.mp h with h | h
    · exact .inl h
    · exact .inr (TL.numL_digits _ c h)
  · rw [showI_nn hn] at h
    exact .inr (TL.numL_digits _ c h)
theorem showI_len {n : Int} (h : n.natAbs < 10 ^ 10) : (showI n).length ≤ 11 := by
  have l := TL.numL_len (n := n.natAbs) (k := 10) (by decide) h
  by_cases hn : n < 0
  · rw [showI_neg hn, List.length_cons]
    omega
  · rw [showI_nn hn]
    omega

/-- the integer of a text, as the program reads it -/
def stripM (w : T) : T := if w.take 1 = [45] then w.drop 1 else w
def badD (d : T) : Prop := d.length < 1 ∨ 10 < d.length ∨ d.head? = some 48
instance (d : T) : Decidable (badD d) := by unfold badD; infer_instance
def isD (c : Nat) : Bool := decide (48 ≤ c ∧ c ≤ 57)
def valM (w : T) : Int := if w.take 1 = [45] then -((dv (stripM w) : Nat) : Int) else ((dv (stripM w) : Nat) : Int)
def intOf (w : T) : Option Int := if w = [48] then some 0 else if badD (stripM w) then none else if (stripM w).all isD = true then some (valM w) else none
theorem all_isD {d : T} : d.all isD = true ↔ AllD d := by
  rw [List.all_eq_true]
  constructor
  · intro h c hc
    exact of_decide_eq_true (h c hc)
  · intro h c hc
    exact decide_eq_true (h c hc)
theorem intOf_of {w : T} {n : Int} (h : intOf w = some n) : n.natAbs < 10 ^ 10 ∧ w = showI n := by
  unfold intOf at h
  by_cases h0 : w = [48]
  · rw [if_pos h0] at h
    have e : 0 = n := Option.some.inj h
    subst e
    refine ⟨by decide, ?_⟩
    rw [h0]
    decide +kernel
  · rw [if_neg h0] at h
    by_cases hb : badD (stripM w)
    · rw [if_pos hb] at h
      cases h
    · rw [if_neg hb] at h
      by_cases ha : (stripM w).all isD = true
      · rw [if_pos ha] at h
        have e : valM w = n := Option.some.inj h
        have hd := all_isD.mp ha
        have hne : stripM w ≠ [] := fun z => hb (.inl (by rw [z]; decide))
        have hlen : (stripM w).length ≤ 10 := by
          have : ¬ 10 < (stripM w).length := fun z => hb (.inr (.inl z))
          omega
        have hh : (stripM w).head? ≠ some 48 := fun z => hb (.inr (.inr z))
        have hlt := dv_lt _ _ rfl hd
        have hlt2 : dv (stripM w) < 10 ^ 10 := Nat.lt_of_lt_of_le hlt (Nat.pow_le_pow_right (by decide) hlen)
        have back := num_back _ _ rfl hd hne (.inr hh)
        by_cases hm : w.take 1 = [45]
        · have v : valM w = -((dv (stripM w) : Nat) : Int) := if_pos hm
          have hs : stripM w = w.drop 1 := if_pos hm
          have hpos : 1 ≤ dv (stripM w) := by
            cases e3 : stripM w with
            | nil => exact absurd e3 hne
            | cons x r =>
              rw [e3] at hd hh
              refine dv_pos (hd x (List.mem_cons_self ..)).1 fun z => hh ?_
              rw [z]
              rfl
          rw [v] at e
          subst e
          have ea : (-((dv (stripM w) : Nat) : Int)).natAbs = dv (stripM w) := by omega
          refine ⟨by rw [ea]; exact hlt2, ?_⟩
          rw [showI_neg (by omega), ea, back, hs]
          have z := List.take_append_drop 1 w
          rw [hm] at z
          exact z.symm
        · have v : valM w = ((dv (stripM w) : Nat) : Int) := if_neg hm
          have hs : stripM w = w := if_neg hm
          rw [v] at e
          subst e
          have ea : (((dv (stripM w) : Nat) : Int)).natAbs = dv (stripM w) := by omega
          refine ⟨by rw [ea]; exact hlt2, ?_⟩
          rw [showI_nn (by omega), ea, back, hs]
      · rw [if_neg ha] at h
        cases h
theorem intOf_show {n : Int} (h : n.natAbs < 10 ^ 10) : intOf (showI n) = some n := by
  have hd := TL.numL_digits n.natAbs
  have hne := TL.numL_ne n.natAbs
  have hv := TL.numL_val n.natAbs
  have hl := TL.numL_len (n := n.natAbs) (k := 10) (by decide) h
  have nb : n.natAbs ≠ 0 → ¬ badD (TL.numL n.natAbs) := fun h0 hb => by
    rcases hb with hb | hb | hb
    · exact hne (List.eq_nil_of_length_eq_zero (by omega))
    · omega
    · exact numL_head _ (by omega) hb
  by_cases hn : n < 0
  · have e := showI_neg hn
    have ht : (showI n).take 1 = [45] := by rw [e]; rfl
    have hs : stripM (showI n) = TL.numL n.natAbs := by
      unfold stripM
      rw [if_pos ht, e]
      rfl
    unfold intOf
    rw [if_neg (by rw [e]; intro z; injection z with z1 z2; cases z1), hs, if_neg (nb (by omega)), if_pos (all_isD.mpr hd)]
    unfold valM
    rw [if_pos ht, hs]
    show some (-((NumText.digitsVal (TL.numL n.natAbs) : Nat) : Int)) = some n
    rw [hv]
    congr 1
    omega
  · have e := showI_nn hn
    by_cases h0 : n.natAbs = 0
    · have en : n = 0 := by omega
      subst en
      decide +kernel
    · have ht : (showI n).take 1 ≠ [45] := by
        rw [e]
        cases e2 : TL.numL n.natAbs with
        | nil => exact absurd e2 hne
        | cons x r =>
          intro z
          have z1 : [x] = [45] := z
          injection z1 with z2 z3
          rw [e2] at hd
          have := hd x (List.mem_cons_self ..)
          omega
      have hs : stripM (showI n) = TL.numL n.natAbs := by
        unfold stripM
        rw [if_neg ht, e]
      unfold intOf
      rw [if_neg (by
        rw [e]
        intro z
        have := numL_head n.natAbs (by omega)
        rw [z] at this
        exact this rfl), hs, if_neg (nb h0), if_pos (all_isD.mpr hd)]
      unfold valM
      rw [if_neg ht, hs]
      show some (((NumText.digitsVal (TL.numL n.natAbs) : Nat) : Int)) = some n
      rw [hv]
      congr 1
      omega
/-- what int() makes of the text -/
theorem int_text {w : T} (h0 : ¬ badD (stripM w)) (ha : (stripM w).all isD = true) : intText? (S w) = some (valM w) ∧ (S w).length ≤ 640 := by
  have hd := all_isD.mp ha
  have hne : stripM w ≠ [] := fun z => h0 (.inl (by rw [z]; decide))
  have hlen : (stripM w).length ≤ 10 := by
    have : ¬ 10 < (stripM w).length := fun z => h0 (.inr (.inl z))
    omega
  by_cases hm : w.take 1 = [45]
  · have v : valM w = -((dv (stripM w) : Nat) : Int) := if_pos hm
    have hs : stripM w = w.drop 1 := if_pos hm
    have z := List.take_append_drop 1 w
    rw [hm, ← hs] at z
    have ew : (S w).cps.toList = 45 :: stripM w := z.symm
    have hl : (S w).length ≤ 11 := by
      rw [S_len, ← z]
      simp
      omega
    exact ⟨by rw [v]; exact intText_neg ew hd hne (by omega), by omega⟩
  · have v : valM w = ((dv (stripM w) : Nat) : Int) := if_neg hm
    have hs : stripM w = w := if_neg hm
    have hl : (S w).length ≤ 11 := by
      rw [S_len]
      rw [hs] at hlen
      omega
    rw [v, hs]
    rw [hs] at hd hne
    exact ⟨intText_digits (x := S w) hd hne (by omega), by omega⟩

def between (t : T) (lo hi : Int) : Option Int := match intOf t with
  | none => none
  | some n => if n < lo ∨ n > hi then none else some n
theorem between_of {t : T} {lo hi n : Int} (h : between t lo hi = some n) : lo ≤ n ∧ n ≤ hi ∧ t = showI n := by
  unfold between at h
  cases e : intOf t with
  | none => rw [e] at h; cases h
  | some m =>
    rw [e] at h
    have h1 : (if m < lo ∨ m > hi then none else some m) = some n := h
    by_cases c : m < lo ∨ m > hi
    · rw [if_pos c] at h1; cases h1
    · rw [if_neg c] at h1
      have em : m = n := Option.some.inj h1
      subst em
      obtain ⟨_, et⟩ := intOf_of e
      exact ⟨by omega, by omega, et⟩
theorem between_show {lo hi n : Int} (h1 : lo ≤ n) (h2 : n ≤ hi) (h : n.natAbs < 10 ^ 10) : between (showI n) lo hi = some n := by
  unfold between
  rw [intOf_show h]
  show (if n < lo ∨ n > hi then none else some n) = some n
  rw [if_neg (by omega)]

/-! ### words of memory -/
def wrapI (n : Int) : Int := (n - (-2147483648)) % 4294967296 + (-2147483648)
theorem wrapI_id {n : Int} (h1 : -2147483648 ≤ n) (h2 : n ≤ 2147483647) : wrapI n = n := by
  unfold wrapI
  rw [Int.emod_eq_of_lt (by omega) (by omega)]
  omega
def wordOf (t : T) : Option Int := if t = cs "nil" then some 0 else if t.take 1 = [64] then (match between (t.drop 1) 0 99999 with
    | none => none
    | some n => some (2 * (n + 1))) else match between t (-2147483648) 2147483647 with
    | none => none
    | some n => some (2 * wrapI n + 1)
def VW (w : Int) : Prop := w = 0 ∨ (w % 2 = 1 ∧ -2147483648 ≤ (w - 1) / 2 ∧ (w - 1) / 2 ≤ 2147483647) ∨ (w % 2 = 0 ∧ 0 ≤ w / 2 - 1 ∧ w / 2 - 1 ≤ 99999)
def wtext (w : Int) : T := if w = 0 then cs "nil" else if w % 2 = 1 then showI ((w - 1) / 2) else 64 :: showI (w / 2 - 1)
theorem nil_eq : cs "nil" = [110, 105, 108] := by decide
theorem showI_not_nil (n : Int) : showI n ≠ cs "nil" := fun z => by
  obtain ⟨c, r, e, h⟩ := showI_cons n
  rw [e, nil_eq] at z
  injection z with z1 z2
  omega
theorem showI_not_at (n : Int) : (showI n).take 1 ≠ [64] := fun z => by
  obtain ⟨c, r, e, h⟩ := showI_cons n
  rw [e] at z
  have z1 : [c] = [64] := z
  injection z1 with z2 z3
  omega
theorem wordOf_of {t : T} {w : Int} (h : wordOf t = some w) : VW w ∧ t = wtext w := by
  unfold wordOf at h
  by_cases h0 : t = cs "nil"
  · rw [if_pos h0] at h
    have e : 0 = w := Option.some.inj h
    subst e
    exact ⟨.inl rfl, h0⟩
  · rw [if_neg h0] at h
    by_cases h1 : t.take 1 = [64]
    · rw [if_pos h1] at h
      cases e : between (t.drop 1) 0 99999 with
      | none => rw [e] at h; cases h
      | some n =>
        rw [e] at h
        have ew : 2 * (n + 1) = w := Option.some.inj h
        obtain ⟨a, b, c⟩ := between_of e
        subst ew
        have e1 : (2 * (n + 1)) / 2 - 1 = n := by omega
        refine ⟨.inr (.inr ⟨by omega, by omega, by omega⟩), ?_⟩
        unfold wtext
        rw [if_neg (by omega), if_neg (by omega), e1, ← c]
        have z := List.take_append_drop 1 t
        rw [h1] at z
        exact z.symm
    · rw [if_neg h1] at h
      cases e : between t (-2147483648) 2147483647 with
      | none => rw [e] at h; cases h
      | some n =>
        rw [e] at h
        have ew : 2 * wrapI n + 1 = w := Option.some.inj h
        obtain ⟨a, b, c⟩ := between_of e
        rw [wrapI_id a b] at ew
        subst ew
        have e1 : (2 * n + 1 - 1) / 2 = n := by omega
        refine ⟨.inr (.inl ⟨by omega, by omega, by omega⟩), ?_⟩
        unfold wtext
        rw [if_neg (by omega), if_pos (by omega), e1]
        exact c
theorem wordOf_text {w : Int} (h : VW w) : wordOf (wtext w) = some w := by
  by_cases h0 : w = 0
  · subst h0
    decide +kernel
  · rcases h with h | ⟨h1, h2, h3⟩ | ⟨h1, h2, h3⟩
    · exact absurd h h0
    · unfold wtext
      rw [if_neg h0, if_pos h1]
      unfold wordOf
      rw [if_neg (showI_not_nil _), if_neg (showI_not_at _), between_show h2 h3 (by omega)]
      show some (2 * wrapI ((w - 1) / 2) + 1) = some w
      rw [wrapI_id h2 h3]
      congr 1
      omega
    · unfold wtext
      rw [if_neg h0, if_neg (by omega)]
      unfold wordOf
      rw [if_neg (by rw [nil_eq]; intro z; injection z with z1 z2; omega), if_pos (show List.take 1 (64 :: showI (w / 2 - 1)) = [64] from rfl)]
      show (match between (showI (w / 2 - 1)) 0 99999 with
        | none => none
        | some n => some (2 * (n + 1))) = some w
      rw [between_show h2 h3 (by omega)]
      show some (2 * (w / 2 - 1 + 1)) = some w
      congr 1
      omega
theorem wtext_mem {w : Int} {c : Nat} (h : c ∈ wtext w) : c = 45 ∨ (48 ≤ c ∧ c ≤ 122) := by
  unfold wtext at h
  by_cases h0 : w = 0
  · rw [if_pos h0, nil_eq] at h
    simp at h
    omega
  · rw [if_neg h0] at h
    by_cases h1 : w % 2 = 1
    · rw [if_pos h1] at h
      have := showI_mem h
      omega
    · rw [if_neg h1] at h
      rcases List.mem_cons.mp h with h | h
      · omega
      · have := showI_mem h
        omega
theorem wtext_len {w : Int} (h : VW w) : (wtext w).length ≤ 12 := by
  unfold wtext
  by_cases h0 : w = 0
  · rw [if_pos h0]; decide
  · rw [if_neg h0]
    rcases h with h | ⟨h1, h2, h3⟩ | ⟨h1, h2, h3⟩
    · exact absurd h h0
    · rw [if_pos h1]
      have := showI_len (n := (w - 1) / 2) (by omega)
      omega
    · rw [if_neg (by omega), List.length_cons]
      have := showI_len (n := w / 2 - 1) (by omega)
      omega
def wordsOf : List T → Option (List Int)
  | [] => some []
  | t :: r => match wordOf t with
    | none => none
    | some w => match wordsOf r with
      | none => none
      | some ws => some (w :: ws)
theorem wordsOf_of : ∀ {ts : List T} {ws : List Int}, wordsOf ts = some ws → (∀ w ∈ ws, VW w) ∧ ts = ws.map wtext
  | [], ws, h => by
    have e : [] = ws := Option.some.inj h
    subst e
    exact ⟨by simp, rfl⟩
  | t :: r, ws, h => by
    unfold wordsOf at h
    cases e : wordOf t with
    | none => rw [e] at h; cases h
    | some w =>
      rw [e] at h
      cases e2 : wordsOf r with
      | none => rw [e2] at h; cases h
      | some vs =>
        rw [e2] at h
        have e3 : w :: vs = ws := Option.some.inj h
        subst e3
        obtain ⟨a, b⟩ := wordOf_of e
        obtain ⟨c, d⟩ := wordsOf_of e2
        refine ⟨fun z hz => ?_, ?_⟩
        · rcases List.mem_cons.mp hz with hz | hz
          · rw [hz]; exact a
          · exact c z hz
        · rw [List.map_cons, ← b, ← d]
theorem wordsOf_text : ∀ {ws : List Int}, (∀ w ∈ ws, VW w) → wordsOf (ws.map wtext) = some ws
  | [], _ => rfl
  | w :: r, h => by
    rw [List.map_cons]
    unfold wordsOf
    rw [wordOf_text (h w (List.mem_cons_self ..)), wordsOf_text fun z hz => h z (List.mem_cons_of_mem _ hz)]

/-! ### names -/
def lowC (c : Nat) : Bool := decide (97 ≤ c ∧ c ≤ 122)
def nameC (c : Nat) : Bool := lowC c || isD c
def reserved : List T := [cs "num", cs "mixed", cs "unset"]
def isName (n : T) : Bool := if n.length < 1 ∨ n.length > 16 ∨ n ∈ reserved then false else if n.all nameC = true then (match n with
  | [] => false
  | c :: _ => lowC c) else false
theorem isName_mem {n : T} (h : isName n = true) {c : Nat} (hc : c ∈ n) : 48 ≤ c ∧ c ≤ 122 := by
  unfold isName at h
  by_cases h1 : n.length < 1 ∨ n.length > 16 ∨ n ∈ reserved
  · rw [if_pos h1] at h; cases h
  · rw [if_neg h1] at h
    by_cases h2 : n.all nameC = true
    · have z := List.all_eq_true.mp h2 c hc
      unfold nameC lowC isD at z
      simp only [Bool.or_eq_true, decide_eq_true_eq] at z
      omega
    · rw [if_neg h2] at h; cases h
theorem isName_len {n : T} (h : isName n = true) : n.length ≤ 16 := by
  unfold isName at h
  by_cases h1 : n.length < 1 ∨ n.length > 16 ∨ n ∈ reserved
  · rw [if_pos h1] at h; cases h
  · omega
end Qb

/-! Kmath2 -/
set_option Elab.async false
set_option linter.all false
set_option maxRecDepth 100000
set_option maxHeartbeats 1000000
/-! Lines of an image, read and written; pictures. -/
namespace Qb
open PySem

/-- what a line says: words, a frame's name and place, an object's shape and payload -/
inductive Ct where
  | ws (l : List Int)
  | fr (n : T) (p : Int)
  | ob (n : T) (l : List Int)
abbrev Item := T × Ct
def toksOf (f : T) : Ct → List T
  | .ws l => f :: l.map wtext
  | .fr n p => [f, n, showI p]
  | .ob n l => f :: n :: l.map wtext
def sStatic : T := cs "static"
def sFrame : T := cs "frame"
def sSlots : T := cs "slots"
def sStack : T := cs "stack"
def sWatched : T := cs "watched"
def sParted : T := cs "parted"
def sObject : T := cs "object"
def OkC (f : T) : Ct → Prop
  | .ws l => f ≠ sFrame ∧ f ≠ sObject ∧ (f = sStatic → l.length = 1) ∧ ∀ w ∈ l, VW w
  | .fr n p => f = sFrame ∧ isName n = true ∧ 0 ≤ p ∧ p ≤ 199
  | .ob n l => f = sObject ∧ isName n = true ∧ ∀ w ∈ l, VW w
def frameC (ts : List T) : Option Ct := match ts with
  | [_, n, p] => if isName n = true then (match between p 0 199 with
    | none => none
    | some k => some (.fr n k)) else none
  | _ => none
def objectC (ts : List T) : Option Ct := match ts with
  | _ :: n :: ps => if isName n = true then (match wordsOf ps with
    | none => none
    | some l => some (.ob n l)) else none
  | _ => none
def wordsC (ts : List T) : Option Ct := match ts with
  | _ :: r => (match wordsOf r with
    | none => none
    | some l => some (.ws l))
  | [] => none
def lineC (ts : List T) : Option Ct := match ts with
  | [] => none
  | f :: _ => if f = sFrame then frameC ts else if f = sObject then objectC ts else if f = sStatic ∧ ts.length ≠ 2 then none else wordsC ts
theorem frameC_of {f : T} {r : List T} {c : Ct} (h : frameC (f :: r) = some c) : ∃ n p, c = .fr n p ∧ isName n = true ∧ 0 ≤ p ∧ p ≤ 199 ∧ f :: r = toksOf f c := by
  unfold frameC at h
  split at h
  · rename_i g n p e
    injection e with e1 e2
    subst e1
    by_cases hn : isName n = true
    · rw [if_pos hn] at h
      cases eb : between p 0 199 with
      | none => rw [eb] at h; cases h
      | some k =>
        rw [eb] at h
        have ec : Ct.fr n k = c := Option.some.inj h
        obtain ⟨a, b, d⟩ := between_of eb
        subst ec
        exact ⟨n, k, rfl, hn, a, b, by rw [e2, d]; rfl⟩
    · rw [if_neg hn] at h; cases h
  · cases h
theorem objectC_of {f : T} {r : List T} {c : Ct} (h : objectC (f :: r) = some c) : ∃ n l, c = .ob n l ∧ isName n = true ∧ (∀ w ∈ l, VW w) ∧ f :: r = toksOf f c := by
  unfold objectC at h
  split at h
  · rename_i g n ps e
    injection e with e1 e2
    subst e1
    by_cases hn : isName n = true
    · rw [if_pos hn] at h
      cases eb : wordsOf ps with
      | none => rw [eb] at h; cases h
      | some l =>
        rw [eb] at h
        have ec : Ct.ob n l = c := Option.some.inj h
        obtain ⟨a, b⟩ := wordsOf_of eb
        subst ec
        exact ⟨n, l, rfl, hn, a, by rw [e2, b]; rfl⟩
    · rw [if_neg hn] at h; cases h
  · cases h
theorem lineC_of {f : T} {r : List T} {c : Ct} (h : lineC (f :: r) = some c) : OkC f c ∧ f :: r = toksOf f c := by
  unfold lineC at h
  have h' : (if f = sFrame then frameC (f :: r) else if f = sObject then objectC (f :: r) else if f = sStatic ∧ (f :: r).length ≠ 2 then none else wordsC (f :: r)) = some c := h
  by_cases h1 : f = sFrame
  · rw [if_pos h1] at h'
    obtain ⟨n, p, ec, a, b, d, e⟩ := frameC_of h'
    subst ec
    exact ⟨⟨h1, a, b, d⟩, e⟩
  · rw [if_neg h1] at h'
    by_cases h2 : f = sObject
    · rw [if_pos h2] at h'
      obtain ⟨n, l, ec, a, b, e⟩ := objectC_of h'
      subst ec
      exact ⟨⟨h2, a, b⟩, e⟩
    · rw [if_neg h2] at h'
      by_cases h3 : f = sStatic ∧ (f :: r).length ≠ 2
      · rw [if_pos h3] at h'; cases h'
      · rw [if_neg h3] at h'
        have h4 : (match wordsOf r with
          | none => none
          | some l => some (Ct.ws l)) = some c := h'
        cases eb : wordsOf r with
        | none => rw [eb] at h4; cases h4
        | some l =>
          rw [eb] at h4
          have ec : Ct.ws l = c := Option.some.inj h4
          obtain ⟨a, b⟩ := wordsOf_of eb
          subst ec
          refine ⟨⟨h1, h2, fun hs => ?_, a⟩, by rw [b]; rfl⟩
          have h5 : (f :: r).length = 2 := by
            by_cases z : (f :: r).length = 2
            · exact z
            · exact absurd ⟨hs, z⟩ h3
          rw [b, List.length_cons, List.length_map] at h5
          omega
theorem lineC_toks {f : T} {c : Ct} (h : OkC f c) : lineC (toksOf f c) = some c := by
  have fo : sFrame ≠ sObject := by decide
  cases c with
  | ws l =>
    obtain ⟨h1, h2, h3, h4⟩ := h
    show (if f = sFrame then _ else if f = sObject then _ else if f = sStatic ∧ (f :: l.map wtext).length ≠ 2 then none else wordsC (f :: l.map wtext)) = some (Ct.ws l)
    rw [if_neg h1, if_neg h2, if_neg (by
      rintro ⟨z1, z2⟩
      apply z2
      rw [List.length_cons, List.length_map, h3 z1])]
    show (match wordsOf (l.map wtext) with
      | none => none
      | some l => some (Ct.ws l)) = some (Ct.ws l)
    rw [wordsOf_text h4]
  | fr n p =>
    obtain ⟨h1, h2, h3, h4⟩ := h
    show (if f = sFrame then frameC [f, n, showI p] else _) = _
    rw [if_pos h1]
    show (if isName n = true then (match between (showI p) 0 199 with
      | none => none
      | some k => some (Ct.fr n k)) else none) = _
    rw [if_pos h2, between_show h3 h4 (by omega)]
  | ob n l =>
    obtain ⟨h1, h2, h3⟩ := h
    show (if f = sFrame then _ else if f = sObject then objectC (f :: n :: l.map wtext) else _) = _
    rw [if_neg (by rw [h1]; exact fo.symm), if_pos h1]
    show (if isName n = true then (match wordsOf (l.map wtext) with
      | none => none
      | some l => some (Ct.ob n l)) else none) = _
    rw [if_pos h2, wordsOf_text h3]

/-! ### the order of the lines -/
def follow (last : T) : List T :=
  if last = [] then [sStatic, sFrame, sWatched] else if last = sStatic then [sStatic, sFrame, sWatched] else if last = sFrame then [sSlots] else if last = sSlots then [sStack]
  else if last = sStack then [sFrame, sWatched] else if last = sWatched then [sParted] else if last = sParted then [sObject] else if last = sObject then [sObject] else []
def firsts : List T := [sStatic, sFrame, sSlots, sStack, sWatched, sParted, sObject]
theorem follow_firsts {last f : T} (h : f ∈ follow last) : f ∈ firsts := by
  have sub : ∀ l : List T, (∀ x ∈ l, x ∈ firsts) → f ∈ l → f ∈ firsts := fun l hl hf => hl f hf
  unfold follow at h
  split at h
  · exact sub _ (by decide) h
  split at h
  · exact sub _ (by decide) h
  split at h
  · exact sub _ (by decide) h
  split at h
  · exact sub _ (by decide) h
  split at h
  · exact sub _ (by decide) h
  split at h
  · exact sub _ (by decide) h
  split at h
  · exact sub _ (by decide) h
  split at h
  · exact sub _ (by decide) h
  · cases h
theorem firsts_free {f : T} (h : f ∈ firsts) : ∀ c ∈ f, 97 ≤ c ∧ c ≤ 122 := by
  have all : ∀ f ∈ firsts, ∀ c ∈ f, 97 ≤ c ∧ c ≤ 122 := by decide
  exact all f h
def line (it : Item) : T := TL.joinL [32] (toksOf it.1 it.2)
def readL (last : T) : List T → Option (List Item)
  | [] => some []
  | l :: ls => match cut 32 l with
    | [] => none
    | f :: r => if f ∈ follow last then (match lineC (f :: r) with
      | none => none
      | some c => match readL f ls with
        | none => none
        | some its => some ((f, c) :: its)) else none
def Chain (last : T) : List Item → Prop
  | [] => True
  | it :: r => it.1 ∈ follow last ∧ OkC it.1 it.2 ∧ Chain it.1 r
theorem toks_free {f : T} {c : Ct} (hf : f ∈ firsts) (h : OkC f c) : ∀ t ∈ toksOf f c, ∀ x ∈ t, 45 ≤ x ∧ x ≤ 122 := by
  have f1 : ∀ x ∈ f, 45 ≤ x ∧ x ≤ 122 := fun x hx => by
    have := firsts_free hf x hx
    omega
  have w1 : ∀ l : List Int, ∀ t ∈ l.map wtext, ∀ x ∈ t, 45 ≤ x ∧ x ≤ 122 := fun l t ht x hx => by
    obtain ⟨w, _, rfl⟩ := List.mem_map.mp ht
    have := wtext_mem hx
    omega
  have n1 : ∀ n : T, isName n = true → ∀ x ∈ n, 45 ≤ x ∧ x ≤ 122 := fun n hn x hx => by
    have := isName_mem hn hx
    omega
  intro t ht x hx
  cases c with
  | ws l =>
    rcases List.mem_cons.mp ht with ht | ht
    · rw [ht] at hx; exact f1 x hx
    · exact w1 l t ht x hx
  | fr n p =>
    obtain ⟨_, hn, _⟩ := h
    rcases List.mem_cons.mp ht with ht | ht
    · rw [ht] at hx; exact f1 x hx
    · rcases List.mem_cons.mp ht with ht | ht
      · rw [ht] at hx; exact n1 n hn x hx
      · rw [List.mem_singleton.mp ht] at hx
        have := showI_mem hx
        omega
  | ob n l =>
    obtain ⟨_, hn, _⟩ := h
    rcases List.mem_cons.mp ht with ht | ht
    · rw [ht] at hx; exact f1 x hx
    · rcases List.mem_cons.mp ht with ht | ht
      · rw [ht] at hx; exact n1 n hn x hx
      · exact w1 l t ht x hx
theorem toksOf_cons (f : T) (c : Ct) : ∃ r, toksOf f c = f :: r := by
  cases c with
  | ws l => exact ⟨_, rfl⟩
  | fr n p => exact ⟨_, rfl⟩
  | ob n l => exact ⟨_, rfl⟩
theorem toksOf_ne (f : T) (c : Ct) : toksOf f c ≠ [] := by
  obtain ⟨r, e⟩ := toksOf_cons f c
  rw [e]
  simp
theorem cut_line {f : T} {c : Ct} (hf : f ∈ firsts) (h : OkC f c) : cut 32 (line (f, c)) = toksOf f c :=
  cut_join (toksOf_ne f c) fun p hp hm => by
    have := toks_free hf h p hp 32 hm
    omega
theorem joinL_mem {S : T} : ∀ {ps : List T} {x : Nat}, x ∈ TL.joinL S ps → x ∈ S ∨ ∃ p ∈ ps, x ∈ p
  | [], x, h => by cases h
  | [p], x, h => .inr ⟨p, List.mem_cons_self .., h⟩
  | p :: q :: r, x, h => by
    rw [joinL_cons (by simp)] at h
    rcases List.mem_append.mp h with h | h
    · exact .inr ⟨p, List.mem_cons_self .., h⟩
    · rcases List.mem_append.mp h with h | h
      · exact .inl h
      · rcases joinL_mem h with h | ⟨z, hz, h⟩
        · exact .inl h
        · exact .inr ⟨z, List.mem_cons_of_mem _ hz, h⟩
theorem line_free {f : T} {c : Ct} (hf : f ∈ firsts) (h : OkC f c) : 10 ∉ line (f, c) := fun hm => by
  rcases joinL_mem hm with hm | ⟨p, hp, hm⟩
  · simp at hm
  · have := toks_free hf h p hp 10 hm
    omega
theorem readL_of : ∀ {ls : List T} {last : T} {r : List Item}, readL last ls = some r → Chain last r ∧ ls = r.map line
  | [], last, r, h => by
    have e : [] = r := Option.some.inj h
    subst e
    exact ⟨trivial, rfl⟩
  | l :: ls, last, r, h => by
    unfold readL at h
    have jc := join_cut 32 l
    cases ec : cut 32 l with
    | nil => exact absurd ec (cut_ne 32 l)
    | cons f q =>
      rw [ec] at h jc
      have h1 : (if f ∈ follow last then (match lineC (f :: q) with
        | none => none
        | some c => match readL f ls with
          | none => none
          | some its => some ((f, c) :: its)) else none) = some r := h
      by_cases hf : f ∈ follow last
      · rw [if_pos hf] at h1
        cases el : lineC (f :: q) with
        | none => rw [el] at h1; cases h1
        | some c =>
          rw [el] at h1
          have h2 : (match readL f ls with
            | none => none
            | some its => some ((f, c) :: its)) = some r := h1
          cases er : readL f ls with
          | none => rw [er] at h2; cases h2
          | some its =>
            rw [er] at h2
            have e : (f, c) :: its = r := Option.some.inj h2
            subst e
            obtain ⟨a, b⟩ := lineC_of el
            obtain ⟨x, y⟩ := readL_of er
            refine ⟨⟨hf, a, x⟩, ?_⟩
            rw [List.map_cons, ← y]
            congr 1
            rw [← jc, b]
            rfl
      · rw [if_neg hf] at h1; cases h1
theorem readL_lines : ∀ {r : List Item} {last : T}, Chain last r → readL last (r.map line) = some r
  | [], _, _ => rfl
  | (f, c) :: r, last, h => by
    obtain ⟨hf, ho, hr⟩ := h
    have hff := follow_firsts hf
    rw [List.map_cons]
    unfold readL
    rw [cut_line hff ho]
    obtain ⟨q, eq⟩ := toksOf_cons f c
    have lt := lineC_toks ho
    rw [eq] at lt
    rw [eq]
    show (if f ∈ follow last then (match lineC (f :: q) with
        | none => none
        | some c => match readL f (r.map line) with
          | none => none
          | some its => some ((f, c) :: its)) else none) = _
    rw [if_pos hf, lt]
    show (match readL f (r.map line) with
          | none => none
          | some its => some ((f, c) :: its)) = _
    rw [readL_lines hr]

/-- the text of items -/
def rend (r : List Item) : T := r.flatMap fun it => line it ++ [10]
def lastF (last : T) : List Item → T
  | [] => last
  | it :: r => lastF it.1 r
def endOk (f : T) : Prop := f = sParted ∨ f = sObject
instance (f : T) : Decidable (endOk f) := by unfold endOk; infer_instance
def parse (t : T) : Option (List Item) := match readL [] (cut 10 t).dropLast with
  | none => none
  | some r => if (cut 10 t).getLast? = some [] ∧ endOk (lastF [] r) then some r else none
theorem join_lines : ∀ ls : List T, TL.joinL [10] (ls ++ [[]]) = ls.flatMap fun l => l ++ [10]
  | [] => rfl
  | l :: r => by
    rw [List.cons_append, joinL_cons (by simp), join_lines r, List.flatMap_cons, List.append_assoc]
theorem rend_eq (r : List Item) : rend r = (r.map line).flatMap fun l => l ++ [10] := by
  unfold rend
  rw [List.flatMap_map]
theorem parse_of {t : T} {r : List Item} (h : parse t = some r) : Chain [] r ∧ endOk (lastF [] r) ∧ t = rend r := by
  unfold parse at h
  cases e : readL [] (cut 10 t).dropLast with
  | none => rw [e] at h; cases h
  | some q =>
    rw [e] at h
    have h1 : (if (cut 10 t).getLast? = some [] ∧ endOk (lastF [] q) then some q else none) = some r := h
    by_cases c : (cut 10 t).getLast? = some [] ∧ endOk (lastF [] q)
    · rw [if_pos c] at h1
      have eq : q = r := Option.some.inj h1
      subst eq
      obtain ⟨a, b⟩ := readL_of e
      refine ⟨a, c.2, ?_⟩
      have hn := cut_ne 10 t
      have hl : (cut 10 t).getLast hn = [] := by
        have z := List.getLast?_eq_some_getLast hn
        rw [c.1] at z
        exact (Option.some.inj z).symm
      have z := List.dropLast_concat_getLast hn
      rw [hl] at z
      have jc := join_cut 10 t
      rw [← z, join_lines, b] at jc
      rw [rend_eq]
      exact jc.symm
    · rw [if_neg c] at h1; cases h1
theorem chain_free : ∀ {r : List Item} {last : T}, Chain last r → ∀ l ∈ r.map line, 10 ∉ l
  | [], _, _, l, h => by cases h
  | (f, c) :: r, last, h, l, hm => by
    obtain ⟨hf, ho, hr⟩ := h
    rcases List.mem_cons.mp hm with e | e
    · rw [e]; exact line_free (follow_firsts hf) ho
    · exact chain_free hr l e
theorem parse_rend {r : List Item} (h : Chain [] r) (he : endOk (lastF [] r)) : parse (rend r) = some r := by
  have e : cut 10 (rend r) = r.map line ++ [[]] := by
    rw [rend_eq, ← join_lines]
    refine cut_join (by simp) fun p hp => ?_
    rcases List.mem_append.mp hp with hp | hp
    · exact chain_free h p hp
    · rw [List.mem_singleton.mp hp]; simp
  unfold parse
  rw [e, List.dropLast_concat, readL_lines h]
  show (if (r.map line ++ [[]]).getLast? = some [] ∧ endOk (lastF [] r) then some r else none) = some r
  rw [if_pos ⟨by simp, he⟩]

/-! ### pictures -/
structure Fm where
  name : T
  place : Int
  slots : List Int
  stack : List Int
structure Ob where
  name : T
  pay : List Int
structure Pic where
  statics : List Int := []
  frames : List Fm := []
  watched : List Int := []
  parted : List Int := []
  objs : List Ob := []
def itS (w : Int) : Item := (sStatic, .ws [w])
def itF (f : Fm) : List Item := [(sFrame, .fr f.name f.place), (sSlots, .ws f.slots), (sStack, .ws f.stack)]
def itO (o : Ob) : Item := (sObject, .ob o.name o.pay)
def itemsW (wa pa : List Int) (os : List Ob) : List Item := (sWatched, .ws wa) :: (sParted, .ws pa) :: os.map itO
def itemsF (fs : List Fm) (wa pa : List Int) (os : List Ob) : List Item := fs.flatMap itF ++ itemsW wa pa os
def items (D : Pic) : List Item := D.statics.map itS ++ itemsF D.frames D.watched D.parted D.objs
def render (D : Pic) : T := rend (items D)
def VF (f : Fm) : Prop := isName f.name = true ∧ 0 ≤ f.place ∧ f.place ≤ 199 ∧ (∀ w ∈ f.slots, VW w) ∧ ∀ w ∈ f.stack, VW w
def VO (o : Ob) : Prop := isName o.name = true ∧ ∀ w ∈ o.pay, VW w
structure Valid (D : Pic) : Prop where
  st : ∀ w ∈ D.statics, VW w
  fr : ∀ f ∈ D.frames, VF f
  wa : ∀ w ∈ D.watched, VW w
  pa : ∀ w ∈ D.parted, VW w
  ob : ∀ o ∈ D.objs, VO o
theorem fol0 : follow [] = [sStatic, sFrame, sWatched] := by decide
theorem fol1 : follow sStatic = [sStatic, sFrame, sWatched] := by decide
theorem fol2 : follow sFrame = [sSlots] := by decide
theorem fol3 : follow sSlots = [sStack] := by decide
theorem fol4 : follow sStack = [sFrame, sWatched] := by decide
theorem fol5 : follow sWatched = [sParted] := by decide
theorem fol6 : follow sParted = [sObject] := by decide
theorem fol7 : follow sObject = [sObject] := by decide

/-! what stands in a chain -/
theorem ok_ws {f : T} {c : Ct} (h : OkC f c) (h1 : f ≠ sFrame) (h2 : f ≠ sObject) : ∃ l, c = .ws l ∧ (f = sStatic → l.length = 1) ∧ ∀ w ∈ l, VW w := by
  cases c with
  | ws l => exact ⟨l, rfl, h.2.2.1, h.2.2.2⟩
  | fr n p => exact absurd h.1 h1
  | ob n l => exact absurd h.1 h2
theorem ok_fr {c : Ct} (h : OkC sFrame c) : ∃ n p, c = .fr n p ∧ isName n = true ∧ 0 ≤ p ∧ p ≤ 199 := by
  cases c with
  | ws l => exact absurd rfl h.1
  | fr n p => exact ⟨n, p, rfl, h.2.1, h.2.2.1, h.2.2.2⟩
  | ob n l => exact absurd h.1 (by decide)
theorem ok_ob {c : Ct} (h : OkC sObject c) : ∃ n l, c = .ob n l ∧ isName n = true ∧ ∀ w ∈ l, VW w := by
  cases c with
  | ws l => exact absurd rfl h.2.1
  | fr n p => exact absurd h.1 (by decide)
  | ob n l => exact ⟨n, l, rfl, h.2.1, h.2.2⟩
theorem chain_obj : ∀ {r : List Item} {last : T}, follow last = [sObject] → Chain last r → ∃ os : List Ob, r = os.map itO ∧ ∀ o ∈ os, VO o
  | [], _, _, _ => ⟨[], rfl, by simp⟩
  | (f, c) :: r, last, hl, h => by
    obtain ⟨hf, ho, hr⟩ := h
    have ef : f = sObject := by
      have hf' : f ∈ follow last := hf
      rw [hl] at hf'
      exact List.mem_singleton.mp hf'
    subst ef
    obtain ⟨n, l, ec, a, b⟩ := ok_ob ho
    have ec' : c = .ob n l := ec
    subst ec'
    obtain ⟨os, e, v⟩ := chain_obj fol7 hr
    refine ⟨⟨n, l⟩ :: os, by rw [e]; rfl, fun o hm => ?_⟩
    rcases List.mem_cons.mp hm with z | z
    · rw [z]; exact ⟨a, b⟩
    · exact v o z
theorem chain_wat {r : List Item} (h : Chain sWatched r) (he : endOk (lastF sWatched r)) : ∃ (pa : List Int) (os : List Ob), r = (sParted, Ct.ws pa) :: os.map itO ∧ (∀ w ∈ pa, VW w) ∧ ∀ o ∈ os, VO o := by
  cases r with
  | nil =>
    have he' : endOk sWatched := he
    exact absurd he' (by decide)
  | cons it r =>
    obtain ⟨f, c⟩ := it
    obtain ⟨hf, ho, hr⟩ := h
    have ef : f = sParted := by
      have hf' : f ∈ follow sWatched := hf
      rw [fol5] at hf'
      exact List.mem_singleton.mp hf'
    subst ef
    obtain ⟨l, ec, _, b⟩ := ok_ws ho (show sParted ≠ sFrame by decide) (show sParted ≠ sObject by decide)
    have ec' : c = .ws l := ec
    subst ec'
    obtain ⟨os, e, v⟩ := chain_obj fol6 hr
    exact ⟨l, os, by rw [e], b, v⟩
/-- behind `watched` is chosen -/
theorem chain_w {c : Ct} {r : List Item} (ho : OkC sWatched c) (h : Chain sWatched r) (he : endOk (lastF sWatched r)) :
    ∃ (wa pa : List Int) (os : List Ob), (sWatched, c) :: r = itemsW wa pa os ∧ (∀ w ∈ wa, VW w) ∧ (∀ w ∈ pa, VW w) ∧ ∀ o ∈ os, VO o := by
  obtain ⟨l, ec, _, b⟩ := ok_ws ho (by decide) (by decide)
  subst ec
  obtain ⟨pa, os, e, v1, v2⟩ := chain_wat h he
  exact ⟨l, pa, os, by rw [e]; rfl, b, v1, v2⟩
/-- behind `frame` is chosen -/
theorem chain_fr : ∀ (n : Nat) {r : List Item} {c : Ct}, r.length ≤ n → OkC sFrame c → Chain sFrame r → endOk (lastF sFrame r) →
    ∃ f fs wa pa os, (sFrame, c) :: r = itemsF (f :: fs) wa pa os ∧ (∀ g ∈ f :: fs, VF g) ∧ (∀ w ∈ wa, VW w) ∧ (∀ w ∈ pa, VW w) ∧ ∀ o ∈ os, VO o := by
  intro n
  induction n with
  | zero =>
    intro r c hn ho h he
    have e : r = [] := List.eq_nil_of_length_eq_zero (by omega)
    subst e
    exact absurd (show endOk sFrame from he) (by decide)
  | succ n ih =>
    intro r c hn ho h he
    obtain ⟨nm, p, ec, vn, v0, v1⟩ := ok_fr ho
    subst ec
    cases r with
    | nil => exact absurd (show endOk sFrame from he) (by decide)
    | cons it r =>
      obtain ⟨f, c⟩ := it
      obtain ⟨hf, ho1, hr⟩ := h
      have ef : f = sSlots := by
        have hf' : f ∈ follow sFrame := hf
        rw [fol2] at hf'
        exact List.mem_singleton.mp hf'
      subst ef
      obtain ⟨sl, ec, _, vs⟩ := ok_ws ho1 (show sSlots ≠ sFrame by decide) (show sSlots ≠ sObject by decide)
      have ec' : c = .ws sl := ec
      subst ec'
      cases r with
      | nil => exact absurd (show endOk sSlots from he) (by decide)
      | cons it r =>
        obtain ⟨f, c⟩ := it
        obtain ⟨hf, ho2, hr⟩ := hr
        have ef : f = sStack := by
          have hf' : f ∈ follow sSlots := hf
          rw [fol3] at hf'
          exact List.mem_singleton.mp hf'
        subst ef
        obtain ⟨sk, ec, _, vk⟩ := ok_ws ho2 (show sStack ≠ sFrame by decide) (show sStack ≠ sObject by decide)
        have ec' : c = .ws sk := ec
        subst ec'
        cases r with
        | nil => exact absurd (show endOk sStack from he) (by decide)
        | cons it r =>
          obtain ⟨f, c⟩ := it
          obtain ⟨hf, ho3, hr⟩ := hr
          have he3 : endOk (lastF f r) := he
          have hf' : f ∈ follow sStack := hf
          rw [fol4] at hf'
          rcases List.mem_cons.mp hf' with ef | ef
          · subst ef
            obtain ⟨g, gs, wa, pa, os, e, v2, v3, v4, v5⟩ := ih (by simp at hn; omega) ho3 hr he3
            refine ⟨⟨nm, p, sl, sk⟩, g :: gs, wa, pa, os, by rw [e]; rfl, fun z hz => ?_, v3, v4, v5⟩
            rcases List.mem_cons.mp hz with hz | hz
            · rw [hz]; exact ⟨vn, v0, v1, vs, vk⟩
            · exact v2 z hz
          · have ef := List.mem_singleton.mp ef
            subst ef
            obtain ⟨wa, pa, os, e, v3, v4, v5⟩ := chain_w ho3 hr he3
            refine ⟨⟨nm, p, sl, sk⟩, [], wa, pa, os, by rw [e]; rfl, fun z hz => ?_, v3, v4, v5⟩
            rw [List.mem_singleton.mp hz]
            exact ⟨vn, v0, v1, vs, vk⟩
theorem chain_st : ∀ {r : List Item} {last : T}, follow last = [sStatic, sFrame, sWatched] → ¬ endOk last → Chain last r → endOk (lastF last r) → ∃ D, Valid D ∧ r = items D
  | [], _, _, hn, _, he => absurd he hn
  | (f, c) :: r, last, hl, _, h, he => by
    obtain ⟨hf, ho, hr⟩ := h
    have he1 : endOk (lastF f r) := he
    have hf' : f ∈ follow last := hf
    rw [hl] at hf'
    rcases List.mem_cons.mp hf' with ef | hf'
    · subst ef
      obtain ⟨l, ec, h1, vs⟩ := ok_ws ho (show sStatic ≠ sFrame by decide) (show sStatic ≠ sObject by decide)
      have ec' : c = .ws l := ec
      subst ec'
      have hlen : l.length = 1 := h1 rfl
      obtain ⟨w, rfl⟩ : ∃ w, l = [w] := by
        cases l with
        | nil => cases hlen
        | cons w q =>
          cases q with
          | nil => exact ⟨w, rfl⟩
          | cons _ _ => simp at hlen
      obtain ⟨D, v, e⟩ := chain_st fol1 (by decide) hr he1
      refine ⟨{ D with statics := w :: D.statics }, ⟨fun z hz => ?_, v.fr, v.wa, v.pa, v.ob⟩, by rw [e]; rfl⟩
      rcases List.mem_cons.mp hz with hz | hz
      · rw [hz]; exact vs w (List.mem_cons_self ..)
      · exact v.st z hz
    · rcases List.mem_cons.mp hf' with ef | hf'
      · subst ef
        obtain ⟨g, gs, wa, pa, os, e, v2, v3, v4, v5⟩ := chain_fr _ (Nat.le_refl _) ho hr he1
        exact ⟨⟨[], g :: gs, wa, pa, os⟩, ⟨by simp, v2, v3, v4, v5⟩, by rw [e]; rfl⟩
      · have ef := List.mem_singleton.mp hf'
        subst ef
        obtain ⟨wa, pa, os, e, v3, v4, v5⟩ := chain_w ho hr he1
        exact ⟨⟨[], [], wa, pa, os⟩, ⟨by simp, by simp, v3, v4, v5⟩, by rw [e]; rfl⟩

/-! what is written is a chain -/
theorem obj_chain : ∀ {os : List Ob} {last : T}, follow last = [sObject] → endOk last → (∀ o ∈ os, VO o) → Chain last (os.map itO) ∧ endOk (lastF last (os.map itO))
  | [], _, _, he, _ => ⟨trivial, he⟩
  | o :: os, last, hl, _, v => by
    have vo := v o (List.mem_cons_self ..)
    obtain ⟨a, b⟩ := obj_chain (os := os) fol7 (.inr rfl) fun z hz => v z (List.mem_cons_of_mem _ hz)
    exact ⟨⟨by show sObject ∈ follow last; rw [hl]; simp, ⟨rfl, vo.1, vo.2⟩, a⟩, b⟩
theorem w_chain {wa pa : List Int} {os : List Ob} {last : T} (hl : sWatched ∈ follow last) (v1 : ∀ w ∈ wa, VW w) (v2 : ∀ w ∈ pa, VW w) (v3 : ∀ o ∈ os, VO o) :
    Chain last (itemsW wa pa os) ∧ endOk (lastF last (itemsW wa pa os)) := by
  obtain ⟨a, b⟩ := obj_chain (os := os) fol6 (.inl rfl) v3
  exact ⟨⟨hl, ⟨(show sWatched ≠ sFrame by decide), (show sWatched ≠ sObject by decide), (fun z => absurd z (show sWatched ≠ sStatic by decide)), v1⟩, (by show sParted ∈ follow sWatched; rw [fol5]; simp),
    ⟨(show sParted ≠ sFrame by decide), (show sParted ≠ sObject by decide), (fun z => absurd z (show sParted ≠ sStatic by decide)), v2⟩, a⟩, b⟩
theorem f_chain : ∀ {fs : List Fm} {wa pa : List Int} {os : List Ob} {last : T}, sFrame ∈ follow last → sWatched ∈ follow last → (∀ f ∈ fs, VF f) → (∀ w ∈ wa, VW w) → (∀ w ∈ pa, VW w) → (∀ o ∈ os, VO o) →
    Chain last (itemsF fs wa pa os) ∧ endOk (lastF last (itemsF fs wa pa os))
  | [], wa, pa, os, last, _, hw, _, v1, v2, v3 => w_chain hw v1 v2 v3
  | f :: fs, wa, pa, os, last, hf, hw, v, v1, v2, v3 => by
    obtain ⟨n1, n2, n3, n4, n5⟩ := v f (List.mem_cons_self ..)
    obtain ⟨a, b⟩ := f_chain (fs := fs) (wa := wa) (pa := pa) (os := os) (last := sStack) (by rw [fol4]; simp) (by rw [fol4]; simp) (fun z hz => v z (List.mem_cons_of_mem _ hz)) v1 v2 v3
    exact ⟨⟨hf, ⟨rfl, n1, n2, n3⟩, (by show sSlots ∈ follow sFrame; rw [fol2]; simp), ⟨(show sSlots ≠ sFrame by decide), (show sSlots ≠ sObject by decide), (fun z => absurd z (show sSlots ≠ sStatic by decide)), n4⟩,
      (by show sStack ∈ follow sSlots; rw [fol3]; simp), ⟨(show sStack ≠ sFrame by decide), (show sStack ≠ sObject by decide), (fun z => absurd z (show sStack ≠ sStatic by decide)), n5⟩, a⟩, b⟩
theorem s_chain : ∀ {ss : List Int} {r : List Item} {last : T}, follow last = [sStatic, sFrame, sWatched] → (∀ w ∈ ss, VW w) → (∀ l, follow l = [sStatic, sFrame, sWatched] → Chain l r ∧ endOk (lastF l r)) →
    Chain last (ss.map itS ++ r) ∧ endOk (lastF last (ss.map itS ++ r))
  | [], r, last, hl, _, h => h last hl
  | w :: ss, r, last, hl, v, h => by
    obtain ⟨a, b⟩ := s_chain (ss := ss) (r := r) (last := sStatic) fol1 (fun z hz => v z (List.mem_cons_of_mem _ hz)) h
    exact ⟨⟨(by show sStatic ∈ follow last; rw [hl]; simp), ⟨(show sStatic ≠ sFrame by decide), (show sStatic ≠ sObject by decide), (fun _ => rfl), (fun z hz => by rw [List.mem_singleton.mp hz]; exact v w (List.mem_cons_self ..))⟩, a⟩, b⟩
theorem items_chain {D : Pic} (v : Valid D) : Chain [] (items D) ∧ endOk (lastF [] (items D)) :=
  s_chain fol0 v.st fun l hl => f_chain (by rw [hl]; simp) (by rw [hl]; simp) v.fr v.wa v.pa v.ob

/-- A: a written picture is read -/
theorem parse_render {D : Pic} (v : Valid D) : parse (render D) = some (items D) := by
  obtain ⟨a, b⟩ := items_chain v
  exact parse_rend a b
/-- B: what is read is what is written -/
theorem parse_some {t : T} {r : List Item} (h : parse t = some r) : ∃ D, Valid D ∧ r = items D ∧ t = render D := by
  obtain ⟨a, b, c⟩ := parse_of h
  obtain ⟨D, v, e⟩ := chain_st fol0 (by decide) a b
  exact ⟨D, v, e, by rw [c, e]; rfl⟩

/-! ### from items to a picture, as read_image goes -/
def stepI (f : T) (c : Ct) (r : List Item) (D : Pic) : Pic := match c with
  | .ws l => if f = sStatic then { D with statics := D.statics ++ l } else if f = sWatched then { D with watched := l } else if f = sParted then { D with parted := l } else D
  | .fr n p => match r with
    | (_, .ws a) :: (_, .ws b) :: _ => { D with frames := D.frames ++ [⟨n, p, a, b⟩] }
    | _ => D
  | .ob n l => { D with objs := D.objs ++ [⟨n, l⟩] }
theorem stepI_ws (f : T) (l : List Int) (r : List Item) (D : Pic) : stepI f (.ws l) r D = if f = sStatic then { D with statics := D.statics ++ l } else if f = sWatched then { D with watched := l } else if f = sParted then { D with parted := l } else D := rfl
def asm : List Item → Pic → Pic
  | [], D => D
  | (f, c) :: r, D => asm r (stepI f c r D)
theorem asm_obj : ∀ (os : List Ob) (D : Pic), asm (os.map itO) D = { D with objs := D.objs ++ os }
  | [], D => by
    show D = _
    rw [List.append_nil]
  | o :: os, D => by
    show asm (os.map itO) { D with objs := D.objs ++ [⟨o.name, o.pay⟩] } = _
    rw [asm_obj os]
    show ({ D with objs := (D.objs ++ [⟨o.name, o.pay⟩]) ++ os } : Pic) = _
    rw [List.append_assoc]
    rfl
theorem asm_w (wa pa : List Int) (os : List Ob) (D : Pic) : asm (itemsW wa pa os) D = { D with watched := wa, parted := pa, objs := D.objs ++ os } := by
  have n1 : sWatched ≠ sStatic := by decide
  have n2 : sParted ≠ sStatic := by decide
  have n3 : sParted ≠ sWatched := by decide
  have e1 : ∀ r, stepI sWatched (.ws wa) r D = { D with watched := wa } := fun r => by
    rw [stepI_ws, if_neg n1, if_pos rfl]
  have e2 : ∀ r (D : Pic), stepI sParted (.ws pa) r D = { D with parted := pa } := fun r D => by
    rw [stepI_ws, if_neg n2, if_neg n3, if_pos rfl]
  show asm (os.map itO) (stepI sParted (.ws pa) _ (stepI sWatched (.ws wa) _ D)) = _
  rw [e1, e2, asm_obj]
theorem asm_f : ∀ (fs : List Fm) (wa pa : List Int) (os : List Ob) (D : Pic), asm (itemsF fs wa pa os) D = { D with frames := D.frames ++ fs, watched := wa, parted := pa, objs := D.objs ++ os }
  | [], wa, pa, os, D => by
    show asm (itemsW wa pa os) D = _
    rw [asm_w, List.append_nil]
  | f :: fs, wa, pa, os, D => by
    have m1 : sSlots ≠ sStatic := by decide
    have m2 : sSlots ≠ sWatched := by decide
    have m3 : sSlots ≠ sParted := by decide
    have k1 : sStack ≠ sStatic := by decide
    have k2 : sStack ≠ sWatched := by decide
    have k3 : sStack ≠ sParted := by decide
    have e2 : ∀ r (D : Pic), stepI sSlots (.ws f.slots) r D = D := fun r D => by
      rw [stepI_ws, if_neg m1, if_neg m2, if_neg m3]
    have e3 : ∀ r (D : Pic), stepI sStack (.ws f.stack) r D = D := fun r D => by
      rw [stepI_ws, if_neg k1, if_neg k2, if_neg k3]
    show asm (itemsF fs wa pa os) (stepI sStack (.ws f.stack) _ (stepI sSlots (.ws f.slots) _ { D with frames := D.frames ++ [⟨f.name, f.place, f.slots, f.stack⟩] })) = _
    rw [e2, e3, asm_f fs]
    show ({ D with frames := (D.frames ++ [⟨f.name, f.place, f.slots, f.stack⟩]) ++ fs, watched := wa, parted := pa, objs := D.objs ++ os } : Pic) = _
    rw [List.append_assoc]
    rfl
theorem asm_s : ∀ (ss : List Int) (r : List Item) (D : Pic), asm (ss.map itS ++ r) D = asm r { D with statics := D.statics ++ ss }
  | [], r, D => by
    show asm r D = _
    rw [List.append_nil]
  | w :: ss, r, D => by
    have e1 : ∀ r, stepI sStatic (.ws [w]) r D = { D with statics := D.statics ++ [w] } := fun r => by
      rw [stepI_ws, if_pos rfl]
    show asm (ss.map itS ++ r) (stepI sStatic (.ws [w]) _ D) = _
    rw [e1, asm_s ss]
    show asm r { D with statics := (D.statics ++ [w]) ++ ss } = _
    rw [List.append_assoc]
    rfl
theorem asm_items (D : Pic) : asm (items D) {} = D := by
  unfold items
  rw [asm_s, asm_f]
  show (⟨[] ++ D.statics, [] ++ D.frames, D.watched, D.parted, [] ++ D.objs⟩ : Pic) = D
  rw [List.nil_append, List.nil_append, List.nil_append]

/-! ### sizes -/
theorem joinL_ge {c : Nat} : ∀ ps : List T, ps.length ≤ (TL.joinL [c] ps).length + 1
  | [] => by simp
  | [p] => by simp
  | p :: q :: r => by
    have ih := joinL_ge (c := c) (q :: r)
    rw [joinL_cons (by simp)]
    simp only [List.length_append, List.length_cons, List.length_nil] at ih ⊢
    omega
theorem line_ws_ge (f : T) (l : List Int) : l.length ≤ (line (f, .ws l)).length := by
  have h := joinL_ge (c := 32) (toksOf f (.ws l))
  have e : (toksOf f (.ws l)).length = l.length + 1 := by
    show (f :: l.map wtext).length = _
    rw [List.length_cons, List.length_map]
  rw [e] at h
  show l.length ≤ (TL.joinL [32] (toksOf f (.ws l))).length
  omega
theorem line_ob_ge (f n : T) (l : List Int) : l.length ≤ (line (f, .ob n l)).length := by
  have h := joinL_ge (c := 32) (toksOf f (.ob n l))
  have e : (toksOf f (.ob n l)).length = l.length + 2 := by
    show (f :: n :: l.map wtext).length = _
    rw [List.length_cons, List.length_cons, List.length_map]
  rw [e] at h
  show l.length ≤ (TL.joinL [32] (toksOf f (.ob n l))).length
  omega
theorem rend_cons (it : Item) (r : List Item) : rend (it :: r) = line it ++ [10] ++ rend r := by
  unfold rend
  rw [List.flatMap_cons]
theorem rend_append (a b : List Item) : rend (a ++ b) = rend a ++ rend b := by
  unfold rend
  rw [List.flatMap_append]
theorem rend_ge : ∀ r : List Item, r.length ≤ (rend r).length
  | [] => Nat.le_refl _
  | it :: r => by
    have ih := rend_ge r
    rw [rend_cons]
    simp only [List.length_append, List.length_cons, List.length_nil]
    omega
theorem rend_mem : ∀ {r : List Item} {it : Item}, it ∈ r → (line it).length + 1 ≤ (rend r).length
  | [], it, h => by cases h
  | i2 :: r, it, h => by
    rw [rend_cons]
    simp only [List.length_append, List.length_cons, List.length_nil]
    rcases List.mem_cons.mp h with h | h
    · rw [h]; omega
    · have := rend_mem h
      omega
end Qb

/-! Khead -/
set_option Elab.async false
set_option linter.all false
set_option maxRecDepth 100000
set_option maxHeartbeats 0
/-! The head: what the top leaves, told by facts; one run in the kernel for each answer of the one row that the top asks. -/
namespace Qb
open PySem PySem.Spec PyProof.Rows L2
/-- the i-th statement of the program's top -/
def top (i : Nat) : Stmt := PySem.Challenge.pw_quietbroom_k86_image_back_whole.main.body.getD i (.Pass ⟨0, 0, 0, 0⟩)
def defD (x : Str) (i : Nat) : He.DefD := ⟨(x, none), x, x, defArgs (top i), defBody (top i), defScope (top i), [], []⟩
def methD (c m q : Str) (i j : Nat) : He.DefD := ⟨(c, some m), m, q, defArgs (inClass (top i) j), defBody (inClass (top i) j), defScope (inClass (top i) j), [], []⟩
def fnL0 : List He.DefD := [defD "wrap" 8, defD "number_word" 9, defD "reference_word" 10, defD "is_number" 11, defD "number_of" 12, defD "address_of" 13, defD "is_name" 18, defD "integer_of" 23]
def fnL1 : List He.DefD := [defD "word_text" 27, defD "line_text" 28, defD "integer_between" 29, defD "word_of" 30, defD "words_of" 31, defD "frame_content" 32, defD "object_content" 33, defD "line_content" 34]
def fnL2 : List He.DefD := [defD "write_image" 37, defD "read_lines" 38, defD "read_image" 39, defD "_law_whole" 41, defD "_law_cell" 42, defD "_law_digits" 43, defD "_law_word" 44, defD "_law_words" 45]
def fnL3 : List He.DefD := [defD "_law_name" 46, defD "_law_free" 47, defD "_law_said" 48, defD "_law_line" 49, defD "_law_text" 50, defD "_law_aimed" 51, defD "_law_edited" 52, defD "_law_row" 53]
def fnL4 : List He.DefD := [defD "_law_sound" 54, defD "_law_same_picture" 55, defD "_law_back" 56, defD "_law_own_text" 57, defD "law" 58, methD "BadImage" "__init__" "BadImage.__init__" 3 0, methD "Picture" "__init__" "Picture.__init__" 20 0, methD "Picture" "__eq__" "Picture.__eq__" 20 2]
def fnL : List He.DefD := fnL0 ++ (fnL1 ++ (fnL2 ++ (fnL3 ++ (fnL4))))
def faL0 : List He.Fa := [.glo "wrap", .glo "number_word", .glo "reference_word", .glo "is_number", .glo "number_of", .glo "address_of", .glo "is_name", .glo "integer_of"]
def faL1 : List He.Fa := [.glo "word_text", .glo "line_text", .glo "integer_between", .glo "word_of", .glo "words_of", .glo "frame_content", .glo "object_content", .glo "line_content"]
def faL2 : List He.Fa := [.glo "write_image", .glo "read_lines", .glo "read_image", .glo "_law_whole", .glo "_law_cell", .glo "_law_digits", .glo "_law_word", .glo "_law_words"]
def faL3 : List He.Fa := [.glo "_law_name", .glo "_law_free", .glo "_law_said", .glo "_law_line", .glo "_law_text", .glo "_law_aimed", .glo "_law_edited", .glo "_law_row"]
def faL4 : List He.Fa := [.glo "_law_sound", .glo "_law_same_picture", .glo "_law_back", .glo "_law_own_text", .glo "law", .glo "Picture", .glo "BadImage", .glo "RESERVED"]
def faL5 : List He.Fa := [.glo "FOLLOWERS", .free "len", .free "tuple", .free "int", .free "str", .free "isinstance", .free "bool", .free "range"]
def faL6 : List He.Fa := [.free "reversed", .free "list", .free "ValueError", .cls "Picture", .mkr "Picture", .noat "Picture" "statics", .noat "Picture" "frames", .noat "Picture" "watched"]
def faL7 : List He.Fa := [.noat "Picture" "parted", .noat "Picture" "objects", .meth "Picture" "__eq__", .int "MIN_NUMBER" (-2147483648), .int "MAX_NUMBER" 2147483647, .int "NIL" 0, .int "LAST_PLACE" 199, .int "LAST_OBJECT" 99999]
def faL8 : List He.Fa := [.str "LETTERS" "abcdefghijklmnopqrstuvwxyz", .str "DIGITS" "0123456789", .str "FIGURES" "0123456789", .exm "BadImage" "BadImage" true, .noat "BadImage" "line", .noat "BadImage" "why", .meth "BadImage" "__init__"]
def faL : List He.Fa := faL0 ++ (faL1 ++ (faL2 ++ (faL3 ++ (faL4 ++ (faL5 ++ (faL6 ++ (faL7 ++ (faL8))))))))
def folK (K : PySem.W.Frag) : Addr := He.ga K "FOLLOWERS"
def tabs : List He.Tab := [(folK, ["", "static", "frame", "slots", "stack", "watched", "parted", "object"])]
/-- the tuple that FOLLOWERS holds at a key -/
def folV (K : PySem.W.Frag) (x : Str) : Addr := match PySem.W.nsIn K (folK K) x with
  | some (some (.ref a)) => a
  | _ => 0
/-- a written tuple of texts -/
def tupAt (K : PySem.W.Frag) (a : Addr) (vs : List Str) : Bool := match K.lookup a with
  | some ⟨.type c, _, .seq its _, _⟩ => decide (c = "tuple") && (decide (its.size ≤ sizeLine) && He.relAll (vs.map V.str) its.toList)
  | _ => false
def folB (K : PySem.W.Frag) (x : Str) (vs : List Str) : Bool := He.eqO (PySem.W.nsIn K (folK K) x) (some (some (.ref (folV K x)))) && tupAt K (folV K x) vs
/-- the written class of an own error over ValueError -/
def excB (K : PySem.W.Frag) (C : Addr) : Bool := match K.lookup C with
  | some ⟨.type t, _, .cls cd, sl⟩ => (match cd.mro, sl.toList with
    | .ref C2 :: bm, [_, _, _, _, some (.builtin n), _] => decide (t = "type") && (decide (C2 = C) && (decide (n = "ValueError.__new__") && (!cd.hasDel && (cd.hasDict && PySem.HandSPX.refsVE bm))))
    | _, _ => false)
  | _ => false
def exq (K : PySem.W.Frag) : Bool :=
  tupAt K (He.ga K "RESERVED") ["num", "mixed", "unset"] && (
  folB K "" ["static", "frame", "watched"] && (
  folB K "static" ["static", "frame", "watched"] && (
  folB K "frame" ["slots"] && (
  folB K "slots" ["stack"] && (
  folB K "stack" ["frame", "watched"] && (
  folB K "watched" ["parted"] && (
  folB K "parted" ["object"] && (
  folB K "object" ["object"] && (
  excB K (He.ga K "BadImage") && (
  He.eqO (PySem.W.findIn K (.ref (He.ga K "BadImage")) "__setattr__") (some (some (.builtin "object.__setattr__"))) && (
  decide (PySem.W.subIn K (.ref (He.ga K "BadImage")) (.type "BaseException") = some true) && (
  decide (PySem.W.typeIn K (.ref (He.ga K "BadImage")) = some (.type "type")) && (
  PySem.W.keepIn K (.ref (He.ga K "BadImage")) && (
  He.eqO (PySem.W.findIn K (.ref (He.ga K "Picture")) "__class__") (some (some (.builtin "object.__class__"))) && (
  He.eqO (PySem.W.specialIn K (.builtin "object.__class__") "__get__") (some (some (.builtin "getset_descriptor.__get__"))) && (
  decide (PySem.W.takesIn K (.builtin "object.__class__") = some true) && (
  decide (PySem.W.mroIn K (He.ga K "Picture") (.type "object") = some true) &&
  decide (PySem.W.kitOne K (.ref (He.ga K "Picture")) (.ref (He.ga K "Picture")) = some true)
  )))))))))))))))))
/-! ### the Hook -/
abbrev AlQ : Type := He.AlT × Bool
def obsQ (K : PySem.W.Frag) : AlQ := (He.obsT faL fnL tabs K, exq K)
def valQ (w : World) : AlQ := (He.valT fnL tabs w, true)
def obsQG (g : Addr → Option Obj) : AlQ := obsQ (He.frG g (He.asD g 5))
def hookQ : PySem.W.Hook where
  α := AlQ
  obs := fun s => obsQG s.heap.get?
  val := valQ
  says := fun w h => ∃ K : PySem.W.Frag, K.In h ∧ obsQ K = valQ w
  of := fun _ _ e => ⟨_, He.frG_in, e⟩
  keeps := fun _ _ _ ⟨Kx, hx, cx⟩ kp => ⟨Kx, PySem.W.Frag.In.keeps hx kp, cx⟩
abbrev R : PySem.W.OpenRow := PySem.W.OpenLaw.row PySem.Challenge.rw_quietbroom_k86_image_back_whole
def ob (s : PySem.W.SharedT) : AlQ := obsQG (HandSHeadRun.getT s)
theorem ob_eq (s : PySem.W.SharedT) : ob s = hookQ.obs s.abs := by
  have e : HandSHeadRun.getT s = s.abs.heap.get? := funext (HandSHeadRun.getT_eq s)
  show obsQG (HandSHeadRun.getT s) = obsQG s.abs.heap.get?
  rw [e]
def loose0 : List Str := ["_wall", "QuietError", "BadImage", "MIN_NUMBER", "MAX_NUMBER", "NIL", "wrap", "number_word"]
def loose1 : List Str := ["reference_word", "is_number", "number_of", "address_of", "LETTERS", "DIGITS", "RESERVED", "is_name"]
def loose2 : List Str := ["Picture", "FIGURES", "integer_of", "LAST_PLACE", "LAST_OBJECT", "word_text", "line_text", "integer_between"]
def loose3 : List Str := ["word_of", "words_of", "frame_content", "object_content", "line_content", "FOLLOWERS", "write_image", "read_lines"]
def loose4 : List Str := ["read_image", "_law_whole", "_law_cell", "_law_digits", "_law_word", "_law_words", "_law_name", "_law_free"]
def loose5 : List Str := ["_law_said", "_law_line", "_law_text", "_law_aimed", "_law_edited", "_law_row", "_law_sound", "_law_same_picture"]
def loose6 : List Str := ["_law_back", "_law_own_text"]
def loose : List Str := loose0 ++ (loose1 ++ (loose2 ++ (loose3 ++ (loose4 ++ (loose5 ++ (loose6))))))
theorem run_f (w : World) : HandSHeadRun.RunEq R (PySem.W.view R.prog [58]) hookQ ob 3000 loose (w.withFollow "special-get-raises" false) := by
  intro os
  kernel_rfl
theorem run_t (w : World) : HandSHeadRun.RunEq R (PySem.W.view R.prog [58]) hookQ ob 3000 loose (w.withFollow "special-get-raises" true) := by
  intro os
  kernel_rfl
theorem run (w : World) : HandSHeadRun.RunEq R (PySem.W.view R.prog [58]) hookQ ob 3000 loose w :=
  PySem.W.byRow2 "special-get-raises" (P := fun w => HandSHeadRun.RunEq R (PySem.W.view R.prog [58]) hookQ ob 3000 loose w) run_f run_t w
end Qb

/-! Kbase -/
set_option Elab.async false
set_option linter.all false
set_option maxRecDepth 100000
set_option maxHeartbeats 2000000
/-! The layer's words for this program: operations, promises' parts, what the text has, a def that is called. -/
namespace Qb
open PySem PySem.Spec PyProof.Rows L2
abbrev Frag := PySem.W.Frag

/-! ### operations by value -/
abbrev rPlus : R2 := rI0 fun a b => .int (a + b)
abbrev rMinus : R2 := rI0 fun i j => .int (i - j)
abbrev rTimes : R2 := rI CMul fun i j => .int (i * j)
abbrev rModP : R2 := rI (fun _ j => 0 < j) fun i j => .int (i % j)
abbrev rDivP : R2 := rI CDiv fun i j => .int (i / j)
abbrev rDivW : R2 := rI CDivW fun i j => .int (i / j)
abbrev rPow : R2 := rI CPow fun i j => .int (i ^ j.toNat)
abbrev rNeg : V → Hp → VK → Prop := rU fun i => .int (-i)
abbrev rLt : R2 := rI0 fun i j => .bl (decide (i < j))
abbrev rLe : R2 := rI0 fun i j => .bl (decide (i ≤ j))
abbrev rGt' : R2 := rI0 fun i j => .bl (decide (j < i))
abbrev rGe' : R2 := rI0 fun i j => .bl (decide (j ≤ i))
abbrev rAddS : R2 := fun x y H Q => ∃ i j, x = .str i ∧ y = .str j ∧ i.length + j.length ≤ sizeLine ∧ Q (.str (i ++ j)) H
abbrev rInSg : R2 := fun x y H Q => ∃ (c : Nat) (z : Str), x = .str ⟨#[c]⟩ ∧ y = .str z ∧ Q (.bl (decide (c ∈ z.cps.toList))) H
abbrev rNotInSg : R2 := fun x y H Q => ∃ (c : Nat) (z : Str), x = .str ⟨#[c]⟩ ∧ y = .str z ∧ Q (.bl (!decide (c ∈ z.cps.toList))) H
abbrev rIsN' : R2 := fun x y H Q => y = .non ∧ Q (.bl (decide (x = .non))) H
abbrev rNotN' : R2 := fun x y H Q => y = .non ∧ Q (.bl (!decide (x = .non))) H
abbrev rLenS : List V → Hp → VK → Prop := fun xs H Q => ∃ z, xs = [.str z] ∧ z.length ≤ sizeLine ∧ Q (.int z.length) H
abbrev rLenQ (K : Frag) : List V → Hp → VK → Prop := fun xs H Q => ∃ p ys, xs = [.ref p] ∧ (SqL K H p ys ∨ SqT K H p ys) ∧ Q (.int ys.length) H
abbrev rIntS : List V → Hp → VK → Prop := fun xs H Q => ∃ a n, xs = [.str a] ∧ PySem.intText? a = some n ∧ a.length ≤ 640 ∧ Q (.int n) H
abbrev rIntI : List V → Hp → VK → Prop := fun xs H Q => ∃ i, xs = [.int i] ∧ Q (.int i) H
abbrev rIntB : List V → Hp → VK → Prop := fun xs H Q => ∃ k, xs = [.bl k] ∧ Q (.int (if k then 1 else 0)) H
abbrev rStrI : List V → Hp → VK → Prop := fun xs H Q => ∃ i, xs = [.int i] ∧ i.natAbs.log2 < 1920 ∧ Q (.str (toString i)) H
abbrev rTupOf (K : Frag) : List V → Hp → VK → Prop := fun xs H Q => ∃ p ys, xs = [.ref p] ∧ ((SqL K H p ys ∧ ∀ l, H l = none → Q (.ref l) (upd H l (.tup ys))) ∨ (SqT K H p ys ∧ Q (.ref p) H))
abbrev rSplit : V → List V → Hp → VK → Prop := fun x xs H Q => ∃ a b, x = .str a ∧ xs = [.str b] ∧ (b.length == 0) = false ∧ a.length + 2 ≤ sizeLine ∧ rNewStrs (Txt.split a b) H Q
abbrev rJoin (K : Frag) : V → List V → Hp → VK → Prop := fun x xs H Q => ∃ a p, ∃ ys : List Str, x = .str a ∧ xs = [.ref p] ∧ (SqL K H p (ys.map V.str) ∨ SqT K H p (ys.map V.str)) ∧ (ys.map (·.length)).sum + ys.length * a.length ≤ 16777216 ∧ Q (.str (Txt.join a ys)) H
/-- list(reversed(a tuple)): a new list -/
def tLRev (K : Frag) (te : TE) : TE := fun σ H Q => te σ H fun v H1 => ∃ (a : Addr) (xs : List V), v = .ref a ∧ SqT K H1 a xs ∧ ∀ q, H1 q = none → Q (.ref q) (upd H1 q (.lst xs.reverse))
section
variable {X : Cx}
theorem call_intI : CallR X (.type "int") rIntI := fun pins s σ H xs us Q I r h => call_int1 pins s σ H xs us Q I r (.inl h)
theorem call_intB : CallR X (.type "int") rIntB := fun pins s σ H xs us Q I r h => call_int1 pins s σ H xs us Q I r (.inr h)
theorem rep_size (a : Array Nat) : ∀ (n : Nat) (acc : Array Nat), ((List.replicate n a).foldl (· ++ ·) acc).size = acc.size + n * a.size
  | 0, acc => by simp
  | n + 1, acc => by
    rw [List.replicate_succ, List.foldl_cons, rep_size a n (acc ++ a), Array.size_append, Nat.succ_mul]
    omega
/-- a text times a number from 2 on -/
def rMulS : R2 := fun x y H Q => ∃ (z : Str) (k : Int), x = .str z ∧ y = .int k ∧ 2 ≤ k ∧ k ≤ 100000 ∧ 0 < z.length ∧ z.length * k.toNat ≤ 1000000 ∧ Q (.str ⟨(List.replicate k.toNat z.cps).foldl (· ++ ·) #[]⟩) H
theorem op_mulS : OpR X (binaryOp .Mult) rMulS := by
  intro pins s σ H x y v u Q I rx ry hz0
  obtain ⟨z, k, rfl, rfl, h2, hk, hz, hl, q⟩ := hz0
  obtain ⟨t, rfl⟩ := rx
  obtain ⟨t2, rfl⟩ := ry
  have hzk : z.length ≤ 1000000 := by
    have := Nat.le_mul_of_pos_right z.length (show 0 < k.toNat by omega)
    omega
  have e1 : (k == 1 || z.length == 0) = false := by
    rw [Bool.or_eq_false_iff]
    exact ⟨beq_eq_false_iff_ne.mpr (by omega), beq_eq_false_iff_ne.mpr (by omega)⟩
  refine PySem.P.mul_str ?_ (fun _ _ => ?_) (fun _ _ => ?_) ?_
  · rw [decide_eq_false (by omega), decide_eq_false (by omega)] <;> rfl
  · have hq : (1000000 : Int) ≤ (2 ^ 63 - 1) / k := by
      rw [Int.le_ediv_iff_mul_le (by omega)]
      have : 1000000 * k ≤ 1000000 * 100000 := Int.mul_le_mul_of_nonneg_left hk (by decide)
      omega
    omega
  · unfold PySem.Builtin.Str.tooLong
    rw [sizeLine_eq]
    exact decide_eq_false (by omega)
  · rw [if_neg (by omega), e1, if_neg Bool.false_ne_true]
    exact ⟨by
      show ((List.replicate k.toNat z.cps).foldl (· ++ ·) #[]).size ≤ _
      rw [rep_size, sizeLine_eq]
      show 0 + k.toNat * z.length ≤ _
      rw [Nat.mul_comm k.toNat z.length]
      omega, ⟨.str _, H, I.tok _, ⟨_, rfl⟩, q⟩⟩
/-- what is walked is one of two -/
def iOr (a b : TI) : TI := fun σ H R => a σ H R ∨ b σ H R
theorem pi_or {tg it : Expr} {a b : TI} (ha : PI X tg it a) (hb : PI X tg it b) : PI X tg it (iOr a b) :=
  ⟨fun pins s σ H R I h => h.elim (ha.run pins s σ H R I) (hb.run pins s σ H R I)⟩
end

/-! ### what grows -/
/-- tuples and locked things stay -/
def immO : HO → Bool
  | .tup _ => true
  | .frz _ _ => true
  | _ => false
def Tm (H H' : Hp) : Prop := ∀ a o, immO o = true → H a = some o → H' a = some o
theorem Tm.refl (H : Hp) : Tm H H := fun _ _ _ h => h
theorem Tm.trans {H H1 H2 : Hp} (a : Tm H H1) (b : Tm H1 H2) : Tm H H2 := fun c o i h => b c o i (a c o i h)
theorem Tm.of {H H' : Hp} (e : Same H H') : Tm H H' := fun a o _ h => e a o h
theorem Tm.set {H H' : Hp} {l : Addr} {xs : List V} {o' : HO} (e : Tm H H') (h : H' l = some (.lst xs)) : Tm H (upd H' l o') := fun a o i z => by
  have z2 := e a o i z
  have n : a ≠ l := fun q => by
    rw [q, h] at z2
    cases z2
    cases i
  rw [upd_ne n]
  exact z2
theorem Same.new {H : Hp} {p : Addr} {o : HO} (h : H p = none) : Same H (upd H p o) := fun a u e => by
  rw [upd_ne (ne_of_none e h)]
  exact e
theorem Same.add {H H' : Hp} {p : Addr} {o : HO} (e : Same H H') (h : H' p = none) : Same H (upd H' p o) := e.trans (Same.new h)
/-- a list that H does not know may change -/
theorem Same.mut {H H' : Hp} {p : Addr} {o : HO} (e : Same H H') (h : H p = none) : Same H (upd H' p o) := fun a u ha => by
  rw [upd_ne (ne_of_none ha h)]
  exact e a u ha
theorem tmT {K : Frag} {H H' : Hp} {a : Addr} {xs : List V} (e : Tm H H') (h : SqT K H a xs) : SqT K H' a xs := by
  rcases h with (h | ⟨o, h⟩) | h
  · exact .inl (.inl (e _ _ rfl h))
  · exact .inl (.inr ⟨o, e _ _ rfl h⟩)
  · exact .inr h
theorem smT {K : Frag} {H H' : Hp} {a : Addr} {xs : List V} (e : Same H H') (h : SqT K H a xs) : SqT K H' a xs := tmT (Tm.of e) h
theorem smL {K : Frag} {H H' : Hp} {a : Addr} {xs : List V} (e : Same H H') (h : SqL K H a xs) : SqL K H' a xs := Same.seq e h

/-! ### data on the heap -/
def WT (K : Frag) (H : Hp) (v : V) (ws : List Int) : Prop := ∃ a, v = .ref a ∧ SqT K H a (ws.map V.int)
def FT (K : Frag) (H : Hp) (v : V) (f : Fm) : Prop := ∃ a s t, v = .ref a ∧ SqT K H a [.str (S f.name), .int f.place, s, t] ∧ WT K H s f.slots ∧ WT K H t f.stack
def OT (K : Frag) (H : Hp) (v : V) (o : Ob) : Prop := ∃ a p, v = .ref a ∧ SqT K H a [.str (S o.name), p] ∧ WT K H p o.pay
def SeqT {α : Type} (F : V → α → Prop) (K : Frag) (H : Hp) (v : V) (xs : List α) : Prop := ∃ a vs, v = .ref a ∧ SqT K H a vs ∧ Paired F vs xs
def DT (K : Frag) (H : Hp) (v : V) (D : Pic) : Prop := ∃ a v1 v2 v3 v4 v5, v = .ref a ∧ SqT K H a [v1, v2, v3, v4, v5] ∧ WT K H v1 D.statics ∧ SeqT (FT K H) K H v2 D.frames ∧ WT K H v3 D.watched ∧ WT K H v4 D.parted ∧ SeqT (OT K H) K H v5 D.objs
def CtT (K : Frag) (H : Hp) (v : V) : Ct → Prop
  | .ws l => WT K H v l
  | .fr n p => ∃ a, v = .ref a ∧ SqT K H a [.str (S n), .int p]
  | .ob n l => OT K H v ⟨n, l⟩
def ItT (K : Frag) (H : Hp) (v : V) (it : Item) : Prop := ∃ a u, v = .ref a ∧ SqT K H a [.str (S it.1), u] ∧ CtT K H u it.2
section
variable {K : Frag} {H H' : Hp} {v : V}
theorem WT.mono (e : Tm H H') {ws : List Int} (h : WT K H v ws) : WT K H' v ws := let ⟨a, e1, h1⟩ := h; ⟨a, e1, tmT e h1⟩
theorem FT.mono (e : Tm H H') {f : Fm} (h : FT K H v f) : FT K H' v f := let ⟨a, s, t, e1, h1, h2, h3⟩ := h; ⟨a, s, t, e1, tmT e h1, h2.mono e, h3.mono e⟩
theorem OT.mono (e : Tm H H') {o : Ob} (h : OT K H v o) : OT K H' v o := let ⟨a, p, e1, h1, h2⟩ := h; ⟨a, p, e1, tmT e h1, h2.mono e⟩
theorem SeqT.mono {α : Type} {F G : V → α → Prop} (e : Tm H H') (hF : ∀ v x, F v x → G v x) {xs : List α} (h : SeqT F K H v xs) : SeqT G K H' v xs := let ⟨a, vs, e1, h1, h2⟩ := h; ⟨a, vs, e1, tmT e h1, Paired.mapP h2 hF⟩
theorem DT.mono (e : Tm H H') {D : Pic} (h : DT K H v D) : DT K H' v D :=
  let ⟨a, v1, v2, v3, v4, v5, e1, h0, h1, h2, h3, h4, h5⟩ := h
  ⟨a, v1, v2, v3, v4, v5, e1, tmT e h0, h1.mono e, h2.mono e fun _ _ z => FT.mono e z, h3.mono e, h4.mono e, h5.mono e fun _ _ z => OT.mono e z⟩
theorem CtT.mono (e : Tm H H') {c : Ct} (h : CtT K H v c) : CtT K H' v c := by
  cases c with
  | ws l => exact WT.mono e h
  | fr n p =>
    obtain ⟨a, e1, h1⟩ := h
    exact ⟨a, e1, tmT e h1⟩
  | ob n l => exact OT.mono e h
theorem ItT.mono (e : Tm H H') {it : Item} (h : ItT K H v it) : ItT K H' v it := let ⟨a, u, e1, h1, h2⟩ := h; ⟨a, u, e1, tmT e h1, h2.mono e⟩
end
theorem Paired.at {α β : Type} {F : α → β → Prop} : ∀ {xs : List α} {ys : List β} {i : Nat} {x : α}, Paired F xs ys → xs[i]? = some x → ∃ y, ys[i]? = some y ∧ F x y
  | _, _, _, _, .nil, e => by simp at e
  | _, _, 0, _, .cons r _, e => by
    have e1 := Option.some.inj e
    subst e1
    exact ⟨_, rfl, r⟩
  | _, _, i + 1, x, .cons _ t, e => by
    obtain ⟨y, h1, h2⟩ := Paired.at (i := i) (x := x) t (by simpa using e)
    exact ⟨y, by simpa using h1, h2⟩
theorem Paired.len {α β : Type} {F : α → β → Prop} : ∀ {xs : List α} {ys : List β}, Paired F xs ys → xs.length = ys.length
  | _, _, .nil => rfl
  | _, _, .cons _ t => by rw [List.length_cons, List.length_cons, Paired.len t]
theorem Paired.app {α β : Type} {F : α → β → Prop} : ∀ {xs xs2 : List α} {ys ys2 : List β}, Paired F xs ys → Paired F xs2 ys2 → Paired F (xs ++ xs2) (ys ++ ys2)
  | _, _, _, _, .nil, q => q
  | _, _, _, _, .cons r t, q => .cons r (Paired.app t q)
theorem Paired.rev {α β : Type} {F : α → β → Prop} : ∀ {xs : List α} {ys : List β}, Paired F xs ys → Paired F xs.reverse ys.reverse
  | _, _, .nil => .nil
  | _, _, .cons r t => by
    rw [List.reverse_cons, List.reverse_cons]
    exact Paired.app (Paired.rev t) (.cons r .nil)

/-! ### what the text has -/
def sLet : Str := "abcdefghijklmnopqrstuvwxyz"
def sDig : Str := "0123456789"
/-- where the written things stand: RESERVED, FOLLOWERS, Picture, BadImage, their defs -/
structure Ad where
  R : Addr
  F : Addr
  C : Addr
  B : Addr
  fB : Addr
  fP : Addr
  fE : Addr
def folS (x : Str) : List Str := (follow (TL.tl x)).map S
structure Txt (K : Frag) (mg : Str → Option Value) (w : World) (A : Ad) : Prop where
  res : ∀ H, SqT K H A.R ([("num" : Str), "mixed", "unset"].map V.str)
  fol : ∀ x : T, (x = [] ∨ x ∈ firsts) → ∃ a, KDct K w A.F (S x) (.ref a) ∧ ∀ H, SqT K H a (((follow x).map S).map V.str)
  cls : Cls K A.C
  nS : NoAttr K A.C "statics"
  nF : NoAttr K A.C "frames"
  nW : NoAttr K A.C "watched"
  nP : NoAttr K A.C "parted"
  nO : NoAttr K A.C "objects"
  mkr : Mk K A.C A.fP
  eqm : PySem.W.findIn K (.ref A.C) "__eq__" = some (some (.ref A.fE)) ∧ PySem.W.isFn K (.ref A.fE) = true
  isp : ∀ (H : Hp) (a dx : Addr) (fs : List (Str × V)), H a = some (.ins A.C dx fs) → TyX K H (.ref a) (.ref A.C)
  kit : PySem.W.kitOne K (.ref A.C) (.ref A.C) = some true
  oex : OexC K A.B
  bI : PySem.W.findIn K (.ref A.B) "__init__" = some (some (.ref A.fB))
  bT : PySem.W.typeIn K (.ref A.fB) = some (.type "function")
  bL : PySem.W.findIn K (.ref A.B) "line" = some none
  bW : PySem.W.findIn K (.ref A.B) "why" = some none
  bE : PySem.W.exmOne K (.ref A.B) (.ref A.B) = some true
  m_MIN : ∃ t, mg "MIN_NUMBER" = some (.int (-2147483648) t)
  m_MAX : ∃ t, mg "MAX_NUMBER" = some (.int 2147483647 t)
  m_NIL : ∃ t, mg "NIL" = some (.int 0 t)
  m_PL : ∃ t, mg "LAST_PLACE" = some (.int 199 t)
  m_OB : ∃ t, mg "LAST_OBJECT" = some (.int 99999 t)
  m_LET : ∃ t, mg "LETTERS" = some (.str sLet t)
  m_DIG : ∃ t, mg "DIGITS" = some (.str sDig t)
  m_FIG : ∃ t, mg "FIGURES" = some (.str sDig t)
  m_RES : mg "RESERVED" = some (.ref A.R)
  m_FOL : mg "FOLLOWERS" = some (.ref A.F)
  m_PIC : mg "Picture" = some (.ref A.C)
  m_BAD : mg "BadImage" = some (.ref A.B)
  f_len : mg "len" = none
  f_tuple : mg "tuple" = none
  f_int : mg "int" = none
  f_str : mg "str" = none
  f_isinstance : mg "isinstance" = none
  f_bool : mg "bool" = none
  f_range : mg "range" = none
  f_reversed : mg "reversed" = none
  f_list : mg "list" = none
section
variable {X : Cx} {A : Ad} {p pos : Pos}
theorem Txt.g_MIN_NUMBER (T : Txt X.K X.mg X.w A) (hg : Gl X "MIN_NUMBER" := by rfl) : PE X (.Name "MIN_NUMBER" p) (tC (.int (-2147483648))) := let ⟨t, h⟩ := T.m_MIN; pe_glob hg h ⟨t, rfl⟩
theorem Txt.g_MAX_NUMBER (T : Txt X.K X.mg X.w A) (hg : Gl X "MAX_NUMBER" := by rfl) : PE X (.Name "MAX_NUMBER" p) (tC (.int 2147483647)) := let ⟨t, h⟩ := T.m_MAX; pe_glob hg h ⟨t, rfl⟩
theorem Txt.g_NIL (T : Txt X.K X.mg X.w A) (hg : Gl X "NIL" := by rfl) : PE X (.Name "NIL" p) (tC (.int 0)) := let ⟨t, h⟩ := T.m_NIL; pe_glob hg h ⟨t, rfl⟩
theorem Txt.g_LAST_PLACE (T : Txt X.K X.mg X.w A) (hg : Gl X "LAST_PLACE" := by rfl) : PE X (.Name "LAST_PLACE" p) (tC (.int 199)) := let ⟨t, h⟩ := T.m_PL; pe_glob hg h ⟨t, rfl⟩
theorem Txt.g_LAST_OBJECT (T : Txt X.K X.mg X.w A) (hg : Gl X "LAST_OBJECT" := by rfl) : PE X (.Name "LAST_OBJECT" p) (tC (.int 99999)) := let ⟨t, h⟩ := T.m_OB; pe_glob hg h ⟨t, rfl⟩
theorem Txt.g_LETTERS (T : Txt X.K X.mg X.w A) (hg : Gl X "LETTERS" := by rfl) : PE X (.Name "LETTERS" p) (tC (.str sLet)) := let ⟨t, h⟩ := T.m_LET; pe_glob hg h ⟨t, rfl⟩
theorem Txt.g_DIGITS (T : Txt X.K X.mg X.w A) (hg : Gl X "DIGITS" := by rfl) : PE X (.Name "DIGITS" p) (tC (.str sDig)) := let ⟨t, h⟩ := T.m_DIG; pe_glob hg h ⟨t, rfl⟩
theorem Txt.g_FIGURES (T : Txt X.K X.mg X.w A) (hg : Gl X "FIGURES" := by rfl) : PE X (.Name "FIGURES" p) (tC (.str sDig)) := let ⟨t, h⟩ := T.m_FIG; pe_glob hg h ⟨t, rfl⟩
theorem Txt.g_RESERVED (T : Txt X.K X.mg X.w A) (hg : Gl X "RESERVED" := by rfl) : PE X (.Name "RESERVED" p) (tC (.ref A.R)) := pe_glob hg T.m_RES rfl
theorem Txt.g_FOLLOWERS (T : Txt X.K X.mg X.w A) (hg : Gl X "FOLLOWERS" := by rfl) : PE X (.Name "FOLLOWERS" p) (tC (.ref A.F)) := pe_glob hg T.m_FOL rfl
theorem Txt.g_Picture (T : Txt X.K X.mg X.w A) (hg : Gl X "Picture" := by rfl) : PE X (.Name "Picture" p) (tC (.ref A.C)) := pe_glob hg T.m_PIC rfl
end

/-! ### a def that is called -/
/-- the module's def x keeps the promise sp -/
structure Cal (P : Program) (w : World) (K : Frag) (mg : Str → Option Value) (base : Heap) (CX : CXT) (k : Nat) (x : Str) (ps : List Str) (sp : Sp) : Prop where
  ex : ∃ f fd, FnOk P w K mg base CX k f fd ps sp ∧ mg x = some (.ref f) ∧ PySem.W.keepIn K (.ref f) = true ∧ Binds K fd ps []
/-- the def at f (a method) -/
structure CalI (P : Program) (w : World) (K : Frag) (mg : Str → Option Value) (base : Heap) (k : Nat) (f : Addr) (ps : List Str) (sp : Sp) : Prop where
  ex : ∃ fd, FnOk P w K mg base CX0 k f fd ps sp ∧ Binds K fd ps []
section
variable {X : Cx} {A : Ad} {CX : CXT} {k j : Nat} {x : Str} {ps : List Str} {sp : Sp} {E : XK} {e : Expr} {es : List Expr} {t : TA} {p pos pos2 : Pos}
theorem pe_cal (c : Cal X.prog X.w X.K X.mg X.base CX0 k x ps sp) (hr : Room j X.A) (ha : PA X (e :: es) t) (hj : k ≤ j := by decide) (hg : Gl X x := by rfl) (hdb : (x == ("__debug__" : Str)) = false := by decide)
    (he : starEach (e :: es) X.env = (false, eval e X.env) :: starEach es X.env := by rfl) (hpq : (backTo pos (starEach es X.env)).any (·.1) = false := by rfl) : PE X (.Call (.Name x p) (e :: es) [] pos) (tCall sp [] E0 t) := by
  obtain ⟨f, fd, F, hm, hk, hb⟩ := c.ex
  exact pe_call F (hr.mono hj) hg hm hk hb .nil pass0 ha hdb he hpq
/-- .. whose errors pass -/
theorem pe_calX (c : Cal X.prog X.w X.K X.mg X.base (L2.CX X.prog X.w) k x ps sp) (hx : Passes (L2.CX X.prog X.w) X E) (hr : Room j X.A) (ha : PA X (e :: es) t) (hj : k ≤ j := by decide) (hg : Gl X x := by rfl) (hdb : (x == ("__debug__" : Str)) = false := by decide)
    (he : starEach (e :: es) X.env = (false, eval e X.env) :: starEach es X.env := by rfl) (hpq : (backTo pos (starEach es X.env)).any (·.1) = false := by rfl) : PE X (.Call (.Name x p) (e :: es) [] pos) (tCall sp [] E t) := by
  obtain ⟨f, fd, F, hm, hk, hb⟩ := c.ex
  exact pe_call F (hr.mono hj) hg hm hk hb .nil hx ha hdb he hpq
theorem Txt.mkPic (T : Txt X.K X.mg X.w A) (c : CalI X.prog X.w X.K X.mg X.base k A.fP ps sp) (hr : Room j X.A) (ha : PA X (e :: es) t) (hj : k + 1 ≤ j := by decide) (hg : Gl X "Picture" := by rfl)
    (he : starEach (e :: es) X.env = (false, eval e X.env) :: starEach es X.env := by rfl) (hpq : (backTo pos (starEach es X.env)).any (·.1) = false := by rfl) : PE X (.Call (.Name "Picture" p) (e :: es) [] pos) (tMake A.C sp [] E0 t) := by
  obtain ⟨fd, F, hb⟩ := c.ex
  exact pe_make T.mkr F (hr.mono hj) hg T.m_PIC hb .nil pass0 ha (by decide) he hpq
theorem Txt.raiseBad {W : WX} (T : Txt X.K X.mg X.w A) (c : CalI X.prog X.w X.K X.mg X.base k A.fB ps sp) (hr : Room j X.A) (tk : Takes X W) (ha : PA X (e :: es) t) (hc : X.calm = true := by rfl) (hj : k + 1 ≤ j := by decide) (hg : Gl X "BadImage" := by rfl)
    (he : starEach (e :: es) X.env = (false, eval e X.env) :: starEach es X.env := by rfl) (hpq : (backTo pos (starEach es X.env)).any (·.1) = false := by rfl) :
    PS X (.Raise (some (.Call (.Name "BadImage" p) (e :: es) [] pos)) none pos2) (fun _ σ H => tMkO A.B sp [] t σ H fun cls d H' => W cls d σ H') := by
  obtain ⟨fd, F, hb⟩ := c.ex
  exact ps_raise hc tk (pmk_oex T.oex T.bI T.bT F (hr.mono hj) hb .nil pass0 hg T.m_BAD ha (by decide) he hpq)
end
end Qb

/-! Kspec -/
set_option Elab.async false
set_option linter.all false
set_option maxRecDepth 100000
set_option maxHeartbeats 2000000
/-! The promise of each def. -/
namespace Qb
open PySem PySem.Spec PyProof.Rows L2
/-- the largest text that is read or written -/
abbrev big : Nat := 1000000
def ov : Option Int → V
  | none => .non
  | some i => .int i
def OvW (K : Frag) (H : Hp) (v : V) : Option (List Int) → Prop
  | none => v = .non
  | some ws => WT K H v ws
def OvC (K : Frag) (H : Hp) (v : V) : Option Ct → Prop
  | none => v = .non
  | some c => CtT K H v c
def sV (ts : List T) : List V := ts.map fun t => V.str (S t)
def iV (ns : List Int) : List V := ns.map V.int
/-- a list or a tuple -/
def SqA (K : Frag) (H : Hp) (a : Addr) (xs : List V) : Prop := SqL K H a xs ∨ SqT K H a xs
/-- the tokens of a line: a list of texts -/
def ToksAt (K : Frag) (H : Hp) (v : V) (ts : List T) : Prop := ∃ p, v = .ref p ∧ SqL K H p (sV ts) ∧ ts.length ≤ big + 10 ∧ ∀ t ∈ ts, t.length ≤ big + 10
def picF (v1 v2 v3 v4 v5 : V) : List (Str × V) := [("statics", v1), ("frames", v2), ("watched", v3), ("parted", v4), ("objects", v5)]
/-- a picture at p -/
def PicAt (A : Ad) (K : Frag) (H : Hp) (p : Addr) (D : Pic) : Prop := ∃ dx v1 v2 v3 v4 v5, H p = some (.ins A.C dx (picF v1 v2 v3 v4 v5)) ∧ WT K H v1 D.statics ∧ SeqT (FT K H) K H v2 D.frames ∧ WT K H v3 D.watched ∧ WT K H v4 D.parted ∧ SeqT (OT K H) K H v5 D.objs
/-- lists in it are not long -/
structure Sml (D : Pic) : Prop where
  st : D.statics.length ≤ big
  fr : D.frames.length ≤ big
  wa : D.watched.length ≤ big
  pa : D.parted.length ≤ big
  ob : D.objs.length ≤ big
  fs : ∀ f ∈ D.frames, f.slots.length ≤ big ∧ f.stack.length ≤ big
  os : ∀ o ∈ D.objs, o.pay.length ≤ big
def sp_wrap (A : Ad) (K : Frag) : Sp := fun vs H Q _ => ∃ n : Int, vs = [.int n] ∧ Q (.int (wrapI n)) H
def sp_number_word (A : Ad) (K : Frag) : Sp := fun vs H Q _ => ∃ n : Int, vs = [.int n] ∧ Q (.int (2 * wrapI n + 1)) H
def sp_reference_word (A : Ad) (K : Frag) : Sp := fun vs H Q _ => ∃ n : Int, vs = [.int n] ∧ Q (.int (2 * n)) H
def sp_is_number (A : Ad) (K : Frag) : Sp := fun vs H Q _ => ∃ n : Int, vs = [.int n] ∧ Q (.bl (decide (n % 2 = 1))) H
def sp_number_of (A : Ad) (K : Frag) : Sp := fun vs H Q _ => ∃ n : Int, vs = [.int n] ∧ Q (.int ((n - 1) / 2)) H
def sp_address_of (A : Ad) (K : Frag) : Sp := fun vs H Q _ => ∃ n : Int, vs = [.int n] ∧ Q (.int (n / 2)) H
def sp_is_name (A : Ad) (K : Frag) : Sp := fun vs H Q _ => ∃ t : T, vs = [.str (S t)] ∧ t.length ≤ big + 10 ∧ Q (.bl (isName t)) H
def sp_integer_of (A : Ad) (K : Frag) : Sp := fun vs H Q _ => ∃ t : T, vs = [.str (S t)] ∧ t.length ≤ big + 10 ∧ Q (ov (intOf t)) H
def sp_integer_between (A : Ad) (K : Frag) : Sp := fun vs H Q _ => ∃ (t : T) (lo hi : Int), vs = [.str (S t), .int lo, .int hi] ∧ t.length ≤ big + 10 ∧ Q (ov (between t lo hi)) H
def sp_word_of (A : Ad) (K : Frag) : Sp := fun vs H Q _ => ∃ t : T, vs = [.str (S t)] ∧ t.length ≤ big + 10 ∧ Q (ov (wordOf t)) H
def sp_words_of (A : Ad) (K : Frag) : Sp := fun vs H Q _ => ∃ (v : V) (ts : List T), vs = [v] ∧ ToksAt K H v ts ∧ ∀ u H', Same H H' → OvW K H' u (wordsOf ts) → Q u H'
def sp_frame_content (A : Ad) (K : Frag) : Sp := fun vs H Q _ => ∃ (v : V) (ts : List T), vs = [v] ∧ ToksAt K H v ts ∧ ∀ u H', Same H H' → OvC K H' u (frameC ts) → Q u H'
def sp_object_content (A : Ad) (K : Frag) : Sp := fun vs H Q _ => ∃ (v : V) (ts : List T), vs = [v] ∧ ToksAt K H v ts ∧ ∀ u H', Same H H' → OvC K H' u (objectC ts) → Q u H'
def sp_line_content (A : Ad) (K : Frag) : Sp := fun vs H Q _ => ∃ (v : V) (ts : List T), vs = [v] ∧ ToksAt K H v ts ∧ ts ≠ [] ∧ ∀ u H', Same H H' → OvC K H' u (lineC ts) → Q u H'
def sp_word_text (A : Ad) (K : Frag) : Sp := fun vs H Q _ => ∃ n : Int, vs = [.int n] ∧ VW n ∧ Q (.str (S (wtext n))) H
def lineT (f : T) (ws : List Int) : T := TL.joinL [32] (f :: ws.map wtext) ++ [10]
def sp_line_text (A : Ad) (K : Frag) : Sp := fun vs H Q _ => ∃ (f : T) (v : V) (ws : List Int), vs = [.str (S f), v] ∧ WT K H v ws ∧ (∀ w ∈ ws, VW w) ∧ f.length ≤ 100 ∧ ws.length ≤ big ∧ ∀ H', Same H H' → Q (.str (S (lineT f ws))) H'
def sp_write_image (A : Ad) (K : Frag) : Sp := fun vs H Q _ => ∃ (p : Addr) (D : Pic), vs = [.ref p] ∧ PicAt A K H p D ∧ Valid D ∧ (render D).length ≤ big ∧ ∀ H', Same H H' → Q (.str (S (render D))) H'
def sp_read_lines (A : Ad) (K : Frag) : Sp := fun vs H Q E => ∃ t : T, vs = [.str (S t)] ∧ t.length ≤ big ∧ (parse t = none → ∀ d H', Same H H' → E (.ref A.B) d H') ∧
  ∀ r, parse t = some r → ∀ p us H', Same H H' → H' p = some (.lst us) → Paired (ItT K H') us r → Q (.ref p) H'
def sp_read_image (A : Ad) (K : Frag) : Sp := fun vs H Q E => ∃ t : T, vs = [.str (S t)] ∧ t.length ≤ big ∧ (parse t = none → ∀ d H', Same H H' → E (.ref A.B) d H') ∧
  ∀ D, Valid D → parse t = some (items D) → ∀ p H', Same H H' → PicAt A K H' p D → Q (.ref p) H'
/-- __init__ of the error: its two fields -/
def spBad (A : Ad) (K : Frag) : Sp := fun vs H Q _ => ∃ (a : Addr) (x y : V), vs = [.ref a, x, y] ∧ H a = some (exo a A.B none) ∧
  ∀ d fs H', H' a = some (exo a A.B (some d)) → H' d = some (exd d fs) → H d = none → (∀ b o, H b = some o → b ≠ a → H' b = some o) → Q .non H'
/-- __init__ of a picture -/
def spPic (A : Ad) (K : Frag) : Sp := fun vs H Q _ => ∃ (p dx a1 a2 a3 a4 a5 : Addr) (us2 us5 : List V) (D : Pic), vs = [.ref p, .ref a1, .ref a2, .ref a3, .ref a4, .ref a5] ∧ H p = some (.ins A.C dx []) ∧
  SqA K H a1 (iV D.statics) ∧ (SqA K H a2 us2 ∧ Paired (FT K H) us2 D.frames) ∧ SqA K H a3 (iV D.watched) ∧ SqA K H a4 (iV D.parted) ∧ (SqA K H a5 us5 ∧ Paired (OT K H) us5 D.objs) ∧ Sml D ∧
  ∀ H', (∀ b o, H b = some o → b ≠ p → H' b = some o) → PicAt A K H' p D → Q .non H'
/-- two pictures of the same data -/
def twoP (A : Ad) (K : Frag) (a b : Addr) (H : Hp) : Prop := ∃ D, PicAt A K H a D ∧ PicAt A K H b D ∧ Valid D
def spPeq (A : Ad) (K : Frag) : Sp := spEq (twoP A K)
def sp__law_whole (A : Ad) (K : Frag) : Sp := fun vs H Q _ => ∃ n : Int, vs = [.int n] ∧ Q (.bl true) H
def sp__law_cell (A : Ad) (K : Frag) : Sp := fun vs H Q _ => ∃ (p : Addr) (ns : List Int) (k : Int), vs = [.ref p, .int k] ∧ SqL K H p (iV ns) ∧ ns.length ≤ 63 ∧ 0 ≤ k ∧ k ≤ 1000 ∧ ∀ i : Int, Q (.int i) H
/-- r_i in 0 .. n_i - 1 -/
def Digs (ns rs : List Int) : Prop := Paired (fun r n => 0 ≤ r ∧ r < n) rs ns
def sp__law_digits (A : Ad) (K : Frag) : Sp := fun vs H Q _ => ∃ (c : Int) (p : Addr) (ns : List Int), vs = [.int c, .ref p] ∧ SqL K H p (iV ns) ∧ ns.length ≤ 1000 ∧ (∀ n ∈ ns, 0 < n ∧ n < 2 ^ 40) ∧
  ∀ q rs H', Same H H' → H' q = some (.lst (iV rs)) → Digs ns rs → Q (.ref q) H'
def sp__law_word (A : Ad) (K : Frag) : Sp := fun vs H Q _ => ∃ a b : Int, vs = [.int a, .int b] ∧ 0 ≤ b ∧ b < 4294967296 ∧ ∀ n H', VW n → Same H H' → Q (.int n) H'
def sp__law_words (A : Ad) (K : Frag) : Sp := fun vs H Q _ => ∃ c m : Int, vs = [.int c, .int m] ∧ 0 ≤ m ∧ m ≤ 100 ∧ ∀ q ws H', Same H H' → H' q = some (.lst (iV ws)) → (ws.length : Int) = m → (∀ n ∈ ws, VW n) → Q (.ref q) H'
def nameSizes : List Int := [16, 26] ++ List.replicate 15 36
def sp__law_name (A : Ad) (K : Frag) : Sp := fun vs H Q _ => ∃ (p : Addr) (rs : List Int), vs = [.ref p] ∧ SqL K H p (iV rs) ∧ Digs nameSizes rs ∧ ∀ n H', isName n = true → Same H H' → Q (.str (S n)) H'
def sp__law_free (A : Ad) (K : Frag) : Sp := fun vs H Q _ => ∃ (p : Addr) (ns : List Int), vs = [.ref p, .int 0] ∧ SqL K H p (iV ns) ∧ ns.length ≤ 63 ∧ ∀ v D H', Same H H' → DT K H' v D → Valid D → (render D).length ≤ 200000 → Q v H'
def sp__law_said (A : Ad) (K : Frag) : Sp := fun vs H Q _ => ∃ n : Int, vs = [.int n] ∧ VW n ∧ Q (.str (S (wtext n))) H
def sp__law_line (A : Ad) (K : Frag) : Sp := fun vs H Q _ => ∃ (f : T) (a : Addr) (ws : List Int), vs = [.str (S f), .ref a] ∧ SqA K H a (iV ws) ∧ (∀ w ∈ ws, VW w) ∧ f.length ≤ 100 ∧ ws.length ≤ big ∧ ∀ H', Same H H' → Q (.str (S (lineT f ws))) H'
def sp__law_text (A : Ad) (K : Frag) : Sp := fun vs H Q _ => ∃ (v : V) (D : Pic), vs = [v] ∧ DT K H v D ∧ Valid D ∧ (render D).length ≤ big ∧ ∀ H', Same H H' → Q (.str (S (render D))) H'
/-- the length of lines with their line feeds -/
def msum (ls : List T) : Nat := (ls.map fun l => l.length + 1).sum
def sp__law_aimed (A : Ad) (K : Frag) : Sp := fun vs H Q _ => ∃ (p : Addr) (ls : List T) (d a b c : Int), vs = [.ref p, .int d, .int a, .int b, .int c] ∧ H p = some (.lst (sV ls)) ∧ ls ≠ [] ∧ msum ls ≤ 500000 ∧
  ∀ q ls' H', Same H H' → H' q = some (.lst (sV ls')) → msum ls' ≤ msum ls + 1000 → Q (.ref q) H'
def editSizes : List Int := [22, 100003, 100019, 44, 23]
def sp__law_edited (A : Ad) (K : Frag) : Sp := fun vs H Q _ => ∃ (t : T) (p : Addr) (rs : List Int), vs = [.str (S t), .ref p] ∧ t.length ≤ 200000 ∧ SqL K H p (iV rs) ∧ Digs editSizes rs ∧ ∀ t' H', Same H H' → t'.length ≤ big → Q (.str (S t')) H'
def sp__law_row (A : Ad) (K : Frag) : Sp := fun vs H Q _ => ∃ (v : V) (ws : List Int), vs = [v] ∧ WT K H v ws ∧ ws.length ≤ big ∧ ∀ H', Same H H' → Q (.bl true) H'
def sp__law_sound (A : Ad) (K : Frag) : Sp := fun vs H Q _ => ∃ (p : Addr) (D : Pic), vs = [.ref p] ∧ PicAt A K H p D ∧ Sml D ∧ ∀ H', Same H H' → Q (.bl true) H'
def sp__law_same_picture (A : Ad) (K : Frag) : Sp := fun vs H Q _ => ∃ (p : Addr) (v : V) (D : Pic), vs = [.ref p, v] ∧ PicAt A K H p D ∧ DT K H v D ∧ Valid D ∧ Q (.bl true) H
def sp__law_back (A : Ad) (K : Frag) : Sp := fun vs H Q _ => ∃ (v : V) (D : Pic), vs = [.str (S (render D)), v] ∧ DT K H v D ∧ Valid D ∧ (render D).length ≤ big ∧ ∀ H', Same H H' → Q (.bl true) H'
def sp__law_own_text (A : Ad) (K : Frag) : Sp := fun vs H Q _ => ∃ t : T, vs = [.str (S t)] ∧ t.length ≤ big ∧ ∀ H', Same H H' → Q (.bl true) H'
def sp_law (A : Ad) (K : Frag) : Sp := fun vs H Q _ => ∃ (a : Addr) (ns : List Int), vs = [.ref a] ∧ SqL K H a (iV ns) ∧ ns.length ≤ 63 ∧ ∀ H', Q (.bl true) H'
end Qb

/-! Kt -/
set_option Elab.async false
set_option linter.all false
set_option maxRecDepth 100000
/-! The readings of the defs' bodies (printed by gen.py). -/
namespace Qb
open PySem PySem.Spec PyProof.Rows L2

abbrev N_BadImage_init : List Str := ["self", "line", "why"]

/-- slots: 0 self, 1 line, 2 why -/
def t_BadImage_init (A : Ad) (K : Frag) (w : World) : TS :=
  (tSeq (tOst K "line" (tVar 0) (tVar 1))
  (tOst K "why" (tVar 0) (tVar 2)))

abbrev N_wrap : List Str := ["n"]

/-- slots: 0 n -/
def t_wrap (A : Ad) (K : Frag) (w : World) : TS :=
  (tRet (tOp rPlus (tOp rModP (tOp rMinus (tVar 0) (tC (.int (-2147483648)))) (tC (.int 4294967296))) (tC (.int (-2147483648)))))

abbrev N_reference_word : List Str := ["address"]

/-- slots: 0 address -/
def t_reference_word (A : Ad) (K : Frag) (w : World) : TS :=
  (tRet (tOp rTimes (tC (.int 2)) (tVar 0)))

abbrev N_is_number : List Str := ["word"]

/-- slots: 0 word -/
def t_is_number (A : Ad) (K : Frag) (w : World) : TS :=
  (tRet (tOp rEq (tOp rModP (tVar 0) (tC (.int 2))) (tC (.int 1))))

abbrev N_number_of : List Str := ["word"]

/-- slots: 0 word -/
def t_number_of (A : Ad) (K : Frag) (w : World) : TS :=
  (tRet (tOp rDivP (tOp rMinus (tVar 0) (tC (.int 1))) (tC (.int 2))))

abbrev N_address_of : List Str := ["word"]

/-- slots: 0 word -/
def t_address_of (A : Ad) (K : Frag) (w : World) : TS :=
  (tRet (tOp rDivP (tVar 0) (tC (.int 2))))

abbrev N_is_name : List Str := ["text", "char"]

/-- slots: 0 text, 1 char -/
def t_is_name (A : Ad) (K : Frag) (w : World) : TS :=
  (tSeq (tIfS (tOr (tTest (tOp rLt (tCB rLenS (tCons (tVar 0) tNil)) (tC (.int 1)))) (tOr (tTest (tOp rGt' (tCB rLenS (tCons (tVar 0) tNil)) (tC (.int 16)))) (tTest (tOp (rIn K false) (tVar 0) (tC (.ref A.R)))))) (tRet (tC (.bl false))) tNext)
  (tSeq (tFor (iStr (tVar 0)) (gName 1)
    (tIfS (tAnd (tTest (tOp rNotInSg (tVar 1) (tC (.str sLet)))) (tTest (tOp rNotInSg (tVar 1) (tC (.str sDig))))) (tRet (tC (.bl false))) tNext))
  (tRet (tOp rInSg (tOp rIxS (tVar 0) (tC (.int 0))) (tC (.str sLet))))))

abbrev N_Picture_init : List Str := ["self", "statics", "frames", "watched", "parted", "objects", "name", "place", "slots", "stack", "payload"]

/-- slots: 0 self, 1 statics, 2 frames, 3 watched, 4 parted, 5 objects, 6 name, 7 place, 8 slots, 9 stack, 10 payload -/
def t_Picture_init (A : Ad) (K : Frag) (w : World) : TS :=
  (tSeq (sFld K (tVar 0) (tCB (rTupOf K) (tCons (tVar 1) tNil)) "statics")
  (tSeq (sFld K (tVar 0) (tCB (rTupOf K) (tCons (tLc (iOr (iList K (tVar 2)) (iTup K (tVar 2))) (gTup K 4 (gCons (gName 6) (gCons (gName 7) (gCons (gName 8) (gCons (gName 9) gNil))))) tYes (tTup (tCons (tVar 6) (tCons (tVar 7) (tCons (tCB (rTupOf K) (tCons (tVar 8) tNil)) (tCons (tCB (rTupOf K) (tCons (tVar 9) tNil)) tNil))))) [6, 7, 8, 9]) tNil)) "frames")
  (tSeq (sFld K (tVar 0) (tCB (rTupOf K) (tCons (tVar 3) tNil)) "watched")
  (tSeq (sFld K (tVar 0) (tCB (rTupOf K) (tCons (tVar 4) tNil)) "parted")
  (sFld K (tVar 0) (tCB (rTupOf K) (tCons (tLc (iOr (iList K (tVar 5)) (iTup K (tVar 5))) (gTup K 2 (gCons (gName 6) (gCons (gName 10) gNil))) tYes (tTup (tCons (tVar 6) (tCons (tCB (rTupOf K) (tCons (tVar 10) tNil)) tNil))) [6, 10]) tNil)) "objects")))))

abbrev N_Picture_eq : List Str := ["self", "other"]

/-- slots: 0 self, 1 other -/
def t_Picture_eq (A : Ad) (K : Frag) (w : World) : TS :=
  (tRet (tAndV (tCB (rIsi K) (tCons (tVar 1) (tCons (tC (.ref A.C)) tNil))) (tAndV (tOp (rEqD K) (tFld K (tVar 0) "statics") (tFld K (tVar 1) "statics")) (tAndV (tOp (rEqD K) (tFld K (tVar 0) "frames") (tFld K (tVar 1) "frames")) (tAndV (tOp (rEqD K) (tFld K (tVar 0) "watched") (tFld K (tVar 1) "watched")) (tAndV (tOp (rEqD K) (tFld K (tVar 0) "parted") (tFld K (tVar 1) "parted")) (tOp (rEqD K) (tFld K (tVar 0) "objects") (tFld K (tVar 1) "objects"))))))))

abbrev N_integer_of : List Str := ["word", "digits", "char"]

/-- slots: 0 word, 1 digits, 2 char -/
def t_integer_of (A : Ad) (K : Frag) (w : World) : TS :=
  (tSeq (tIfS (tTest (tOp rEq (tVar 0) (tC (.str "0")))) (tRet (tC (.int 0))) tNext)
  (tSeq (tAsg (tVar 0) (gName 1))
  (tSeq (tIfS (tTest (tOp rEq (tSl rSlS (tVar 0) tNoPart (tPart (tC (.int 1)))) (tC (.str "-")))) (tAsg (tSl rSlS (tVar 0) (tPart (tC (.int 1))) tNoPart) (gName 1)) tNext)
  (tSeq (tIfS (tOr (tTest (tOp rLt (tCB rLenS (tCons (tVar 1) tNil)) (tC (.int 1)))) (tOr (tTest (tOp rGt' (tCB rLenS (tCons (tVar 1) tNil)) (tC (.int 10)))) (tTest (tOp rEq (tOp rIxS (tVar 1) (tC (.int 0))) (tC (.str "0")))))) (tRet (tC .non)) tNext)
  (tSeq (tFor (iStr (tVar 1)) (gName 2)
    (tIfS (tTest (tOp rNotInSg (tVar 2) (tC (.str sDig)))) (tRet (tC .non)) tNext))
  (tRet (tCB rIntS (tCons (tVar 0) tNil))))))))

abbrev N__law_whole : List Str := ["_law_value"]

/-- slots: 0 _law_value -/
def t__law_whole (A : Ad) (K : Frag) (w : World) : TS :=
  (tRet (tAndV (tCB (rIsi K) (tCons (tVar 0) (tCons (tC (.ty "int")) tNil))) (tNotV (tCB (rIsi K) (tCons (tVar 0) (tCons (tC (.ty "bool")) tNil))))))

abbrev N__law_cell : List Str := ["_law_script", "_law_k", "_law_seed", "_law_cell_here"]

/-- slots: 0 _law_script, 1 _law_k, 2 _law_seed, 3 _law_cell_here -/
def t__law_cell (A : Ad) (K : Frag) (w : World) : TS :=
  (tSeq (tIfS (tTest (tOp rLt (tVar 1) (tCB (rLenQ K) (tCons (tVar 0) tNil)))) (tRet (tOp (rIxL K) (tVar 0) (tVar 1))) tNext)
  (tSeq (tAsg (tC (.int 17)) (gName 2))
  (tSeq (tFor (iList K (tVar 0)) (gName 3)
    (tAsg (tOp rModP (tCB rIntI (tCons (tOp rPlus (tOp rTimes (tVar 2) (tC (.int 31))) (tOp rModP (tCB rIntI (tCons (tVar 3) tNil)) (tC (.int 1000003)))) tNil)) (tC (.int 1000003))) (gName 2)))
  (tRet (tOp rModP (tCB rIntI (tCons (tOp rTimes (tOp rTimes (tOp rPlus (tVar 2) (tC (.int 7))) (tOp rPlus (tVar 1) (tC (.int 3)))) (tC (.int 69621))) tNil)) (tC (.int 2147483647)))))))

abbrev N__law_digits : List Str := ["_law_cell_here", "_law_sizes", "_law_row_here", "_law_rest", "_law_seed", "_law_k", "_law_size", "_law_twice"]

/-- slots: 0 _law_cell_here, 1 _law_sizes, 2 _law_row_here, 3 _law_rest, 4 _law_seed, 5 _law_k, 6 _law_size, 7 _law_twice -/
def t__law_digits (A : Ad) (K : Frag) (w : World) : TS :=
  (tSeq (tAsg (tLst tNil) (gName 2))
  (tSeq (tAsg (tCB rIntI (tCons (tVar 0) tNil)) (gName 3))
  (tSeq (tIfS (tTest (tOp rGe' (tVar 3) (tOp rPow (tC (.int 10)) (tC (.int 18))))) (tSeq (tAsg (tOp rMinus (tVar 3) (tOp rPow (tC (.int 10)) (tC (.int 18)))) (gName 3))
  (tSeq (tFor (iList K (tVar 1)) (gName 6)
    (tSeq (tDrop (tBM K "list" rAppend (tVar 2) (tCons (tOp rModP (tCB rIntI (tCons (tVar 3) tNil)) (tVar 6)) tNil)))
  (tAsg (tOp rDivW (tCB rIntI (tCons (tVar 3) tNil)) (tVar 6)) (gName 3))))
  (tRet (tVar 2)))) tNext)
  (tSeq (tAsg (tOp rModP (tCB rIntI (tCons (tVar 3) tNil)) (tC (.int 2147483629))) (gName 4))
  (tSeq (tFor (iRng1 (tCons (tCB (rLenQ K) (tCons (tVar 1) tNil)) tNil)) (gName 5)
    (tSeq (tAsg (tOp rModP (tCB rIntI (tCons (tOp rPlus (tOp rPlus (tOp rTimes (tVar 4) (tC (.int 48271))) (tOp rTimes (tC (.int 974711)) (tVar 5))) (tC (.int 12345))) tNil)) (tC (.int 2147483647))) (gName 4))
  (tSeq (tAsg (tOp rModP (tCB rIntI (tCons (tOp rTimes (tVar 4) (tOp rPlus (tOp rDivP (tVar 4) (tC (.int 65537))) (tC (.int 3)))) tNil)) (tC (.int 2147483629))) (gName 7))
  (tDrop (tBM K "list" rAppend (tVar 2) (tCons (tOp rModP (tOp rDivP (tVar 7) (tC (.int 19))) (tOp (rIxL K) (tVar 1) (tVar 5))) tNil))))))
  (tRet (tVar 2)))))))

abbrev N__law_word : List Str := ["_law_a", "_law_b"]

/-- slots: 0 _law_a, 1 _law_b -/
def t__law_word (A : Ad) (K : Frag) (w : World) : TS :=
  (tSeq (tIfS (tTest (tOp rEq (tVar 0) (tC (.int 0)))) (tRet (tC (.int 0))) tNext)
  (tSeq (tIfS (tTest (tOp rEq (tVar 0) (tC (.int 1)))) (tRet (tOp rPlus (tOp rTimes (tC (.int 2)) (tOp (rIxL K) (tLst (tCons (tC (.int 0)) (tCons (tC (.int 9)) (tCons (tC (.int 10)) (tCons (tC (.int 99)) (tCons (tC (.int 100)) (tCons (tC (.int 99999)) (tCons (tC (.int 1)) (tCons (tC (.int 54321)) tNil))))))))) (tOp rModP (tCB rIntI (tCons (tVar 1) tNil)) (tC (.int 8))))) (tC (.int 2)))) tNext)
  (tSeq (tIfS (tTest (tOp rEq (tVar 0) (tC (.int 2)))) (tRet (tOp rPlus (tOp rTimes (tC (.int 2)) (tOp rModP (tCB rIntI (tCons (tVar 1) tNil)) (tC (.int 100000)))) (tC (.int 2)))) tNext)
  (tSeq (tIfS (tTest (tOp rEq (tVar 0) (tC (.int 3)))) (tRet (tOp rPlus (tOp rTimes (tC (.int 2)) (tOp (rIxL K) (tLst (tCons (tC (.int 0)) (tCons (tC (.int 1)) (tCons (tUn rNeg (tC (.int 1))) (tCons (tC (.int 2147483647)) (tCons (tUn rNeg (tC (.int 2147483648))) (tCons (tC (.int 10)) (tCons (tUn rNeg (tC (.int 10))) (tCons (tC (.int 99999)) tNil))))))))) (tOp rModP (tCB rIntI (tCons (tVar 1) tNil)) (tC (.int 8))))) (tC (.int 1)))) tNext)
  (tSeq (tIfS (tTest (tOp rEq (tVar 0) (tC (.int 4)))) (tRet (tOp rPlus (tOp rTimes (tC (.int 2)) (tOp rMinus (tOp rModP (tCB rIntI (tCons (tVar 1) tNil)) (tC (.int 41))) (tC (.int 20)))) (tC (.int 1)))) tNext)
  (tRet (tOp rPlus (tOp rTimes (tC (.int 2)) (tOp rMinus (tOp rModP (tCB rIntI (tCons (tOp rTimes (tVar 1) (tC (.int 39))) tNil)) (tC (.int 4294967296))) (tC (.int 2147483648)))) (tC (.int 1)))))))))

abbrev N__law_name : List Str := ["_law_row_here", "_law_letters", "_law_name_here", "_law_k"]

/-- slots: 0 _law_row_here, 1 _law_letters, 2 _law_name_here, 3 _law_k -/
def t__law_name (A : Ad) (K : Frag) (w : World) : TS :=
  (tSeq (tAsg (tC (.str "abcdefghijklmnopqrstuvwxyz0123456789")) (gName 1))
  (tSeq (tAsg (tOp rAddS (tOp rIxS (tVar 1) (tOp (rIxL K) (tVar 0) (tC (.int 1)))) (tM1 (rJoin K) (tC (.str "")) (tLc (iList K (tSl (rSlL K) (tVar 0) (tPart (tC (.int 2))) (tPart (tOp rPlus (tC (.int 2)) (tOp (rIxL K) (tVar 0) (tC (.int 0))))))) (gName 3) tYes (tOp rIxS (tVar 1) (tVar 3)) [3]))) (gName 2))
  (tSeq (tIfS (tTest (tOp (rIn K false) (tVar 2) (tLst (tCons (tC (.str "num")) (tCons (tC (.str "mixed")) (tCons (tC (.str "unset")) tNil)))))) (tRet (tOp rAddS (tVar 2) (tC (.str "0")))) tNext)
  (tRet (tVar 2)))))

abbrev N__law_said : List Str := ["_law_word_here"]

/-- slots: 0 _law_word_here -/
def t__law_said (A : Ad) (K : Frag) (w : World) : TS :=
  (tSeq (tIfS (tTest (tOp rEq (tVar 0) (tC (.int 0)))) (tRet (tC (.str "nil"))) tNext)
  (tSeq (tIfS (tTest (tOp rEq (tOp rModP (tCB rIntI (tCons (tVar 0) tNil)) (tC (.int 2))) (tC (.int 1)))) (tRet (tCB rStrI (tCons (tOp rDivP (tOp rMinus (tVar 0) (tC (.int 1))) (tC (.int 2))) tNil))) tNext)
  (tRet (tOp rAddS (tC (.str "@")) (tCB rStrI (tCons (tOp rMinus (tOp rDivP (tVar 0) (tC (.int 2))) (tC (.int 1))) tNil))))))

abbrev N__law_aimed : List Str := ["_law_lines", "_law_deed", "_law_one", "_law_two", "_law_three", "_law_names", "_law_places", "_law_edges", "_law_odd", "_law_firsts", "_law_spots", "_law_begin", "_law_at", "_law_head", "_law_line_here", "_law_k"]

/-- slots: 0 _law_lines, 1 _law_deed, 2 _law_one, 3 _law_two, 4 _law_three, 5 _law_names, 6 _law_places, 7 _law_edges, 8 _law_odd, 9 _law_firsts, 10 _law_spots, 11 _law_begin, 12 _law_at, 13 _law_head, 14 _law_line_here, 15 _law_k -/
def t__law_aimed (A : Ad) (K : Frag) (w : World) : TS :=
  (tSeq (tAsg (tLst (tCons (tC (.str "")) (tCons (tC (.str "num")) (tCons (tC (.str "mixed")) (tCons (tC (.str "unset")) (tCons (tC (.str "9x")) (tCons (tC (.str "x9")) (tCons (tC (.str "aA")) (tCons (tC (.str "a-b")) (tCons (tC (.str "abcdefghijklmnop")) (tCons (tC (.str "abcdefghijklmnopq")) (tCons (tC (.str "z")) (tCons (tC (.str "Num")) (tCons (tC (.str "nums")) tNil)))))))))))))) (gName 5))
  (tSeq (tAsg (tOp rCat (tOp rCat (tVar 5) (tLst (tCons (tC (.str "a_b")) (tCons (tC (.str "a.b")) (tCons (tC (.str "unset0")) tNil))))) (tOp rRep (tLst (tCons (tC (.str "main")) tNil)) (tC (.int 16)))) (gName 5))
  (tSeq (tAsg (tLst (tCons (tC (.str "0")) (tCons (tC (.str "199")) (tCons (tC (.str "200")) (tCons (tC (.str "-1")) (tCons (tC (.str "-0")) (tCons (tC (.str "00")) (tCons (tC (.str "019")) (tCons (tC (.str "nil")) (tCons (tC (.str "@0")) (tCons (tC (.str "1000")) (tCons (tC (.str "")) (tCons (tC (.str "198")) (tCons (tC (.str "+1")) (tCons (tC (.str "1_9")) (tCons (tC (.str "2147483648")) (tCons (tC (.str "12345678901")) tNil))))))))))))))))) (gName 6))
  (tSeq (tAsg (tOp rCat (tVar 6) (tOp rRep (tLst (tCons (tC (.str "7")) tNil)) (tC (.int 16)))) (gName 6))
  (tSeq (tAsg (tLst (tCons (tC (.str "2147483647")) (tCons (tC (.str "2147483648")) (tCons (tC (.str "-2147483648")) (tCons (tC (.str "-2147483649")) (tCons (tC (.str "4294967296")) (tCons (tC (.str "-0")) (tCons (tC (.str "00")) (tCons (tC (.str "-07")) (tCons (tC (.str "+1")) (tCons (tC (.str "1_0")) (tCons (tC (.str "-")) (tCons (tC (.str "--1")) (tCons (tC (.str "")) tNil)))))))))))))) (gName 7))
  (tSeq (tAsg (tOp rCat (tVar 7) (tLst (tCons (tC (.str "@99999")) (tCons (tC (.str "@100000")) (tCons (tC (.str "@00")) (tCons (tC (.str "@-0")) (tCons (tC (.str "@-1")) (tCons (tC (.str "@")) (tCons (tC (.str "@nil")) (tCons (tC (.str "Nil")) (tCons (tC (.str "NIL")) (tCons (tC (.str "nil")) (tCons (tC (.str "0")) tNil))))))))))))) (gName 7))
  (tSeq (tAsg (tLst (tCons (tC (.str "# nothing")) (tCons (tC (.str "#")) (tCons (tC (.str "Watched")) (tCons (tC (.str "STATIC 1")) (tCons (tC (.str "static  1")) (tCons (tC (.str " static 1")) (tCons (tC (.str "static 1 ")) (tCons (tC (.str "slots ")) (tCons (tC (.str " stack")) (tCons (tC (.str "object box  1")) (tCons (tC (.str "end")) tNil)))))))))))) (gName 8))
  (tSeq (tAsg (tLc (iList K (tVar 0)) (gName 14) tYes (tOp (rIxL K) (tM1 rSplit (tVar 14) (tC (.str " "))) (tC (.int 0))) [14]) (gName 9))
  (tSeq (tAsg (tLc (iRng1 (tCons (tCB (rLenQ K) (tCons (tVar 0) tNil)) tNil)) (gName 15) (tTest (tOp (rIn K false) (tOp (rIxL K) (tVar 9) (tVar 15)) (tLst (tCons (tC (.str "static")) (tCons (tC (.str "slots")) (tCons (tC (.str "stack")) (tCons (tC (.str "watched")) (tCons (tC (.str "parted")) (tCons (tC (.str "object")) tNil))))))))) (tVar 15) [15]) (gName 10))
  (tSeq (tAsg (tBM K "list" (rIndex K) (tOp rCat (tVar 9) (tLst (tCons (tC (.str "watched")) tNil))) (tCons (tC (.str "watched")) tNil)) (gName 11))
  (tSeq (tIfS (tTest (tOp rEq (tVar 1) (tC (.int 13)))) (tRet (tOp rCat (tSl (rSlL K) (tVar 0) tNoPart (tPart (tOp rModP (tCB rIntI (tCons (tVar 2) tNil)) (tCB (rLenQ K) (tCons (tVar 0) tNil))))) (tLst (tCons (tC (.str "")) tNil)))) tNext)
  (tSeq (tIfS (tTest (tOp rEq (tVar 1) (tC (.int 14)))) (tSeq (tAsg (tOp rAddS (tOp rAddS (tOp rAddS (tC (.str "frame ")) (tOp (rIxL K) (tVar 5) (tOp rModP (tCB rIntI (tCons (tVar 2) tNil)) (tC (.int 32))))) (tC (.str " "))) (tOp (rIxL K) (tVar 6) (tOp rModP (tCB rIntI (tCons (tVar 3) tNil)) (tC (.int 32))))) (gName 13))
  (tRet (tOp rCat (tOp rCat (tSl (rSlL K) (tVar 0) tNoPart (tPart (tVar 11))) (tLst (tCons (tVar 13) (tCons (tC (.str "slots")) (tCons (tC (.str "stack")) tNil))))) (tSl (rSlL K) (tVar 0) (tPart (tVar 11)) tNoPart)))) tNext)
  (tSeq (tIfS (tTest (tOp rEq (tVar 1) (tC (.int 15)))) (tRet (tOp rCat (tOp rCat (tSl (rSlL K) (tVar 0) tNoPart (tPart (tOp rMinus (tCB (rLenQ K) (tCons (tVar 0) tNil)) (tC (.int 1))))) (tLst (tCons (tOp rAddS (tOp rAddS (tC (.str "object ")) (tOp (rIxL K) (tVar 5) (tOp rModP (tCB rIntI (tCons (tVar 2) tNil)) (tC (.int 16))))) (tOp (rIxL K) (tLst (tCons (tC (.str "")) (tCons (tC (.str " 7")) tNil))) (tOp rModP (tCB rIntI (tCons (tVar 3) tNil)) (tC (.int 2))))) tNil))) (tSl (rSlL K) (tVar 0) (tPart (tOp rMinus (tCB (rLenQ K) (tCons (tVar 0) tNil)) (tC (.int 1)))) tNoPart))) tNext)
  (tSeq (tIfS (tAnd (tTest (tOp rEq (tVar 1) (tC (.int 16)))) (tTest (tOp rGt' (tCB (rLenQ K) (tCons (tVar 10) tNil)) (tC (.int 0))))) (tSeq (tAsg (tOp (rIxL K) (tVar 10) (tOp rModP (tCB rIntI (tCons (tVar 2) tNil)) (tCB (rLenQ K) (tCons (tVar 10) tNil)))) (gName 12))
  (tSeq (tAsg (tOp (rIxL K) (tLst (tCons (tOp (rIxL K) (tVar 0) (tVar 12)) (tCons (tC (.str "static")) tNil))) (tCB rIntB (tCons (tOp rEq (tOp (rIxL K) (tVar 9) (tVar 12)) (tC (.str "static"))) tNil))) (gName 14))
  (tRet (tOp rCat (tOp rCat (tSl (rSlL K) (tVar 0) tNoPart (tPart (tVar 12))) (tLst (tCons (tOp rAddS (tOp rAddS (tVar 14) (tC (.str " "))) (tOp (rIxL K) (tVar 7) (tOp rModP (tCB rIntI (tCons (tVar 3) tNil)) (tCB (rLenQ K) (tCons (tVar 7) tNil))))) tNil))) (tSl (rSlL K) (tVar 0) (tPart (tOp rPlus (tVar 12) (tC (.int 1)))) tNoPart))))) tNext)
  (tSeq (tAsg (tOp rModP (tCB rIntI (tCons (tVar 2) tNil)) (tCB (rLenQ K) (tCons (tVar 0) tNil))) (gName 12))
  (tRet (tOp rCat (tOp rCat (tSl (rSlL K) (tVar 0) tNoPart (tPart (tVar 12))) (tLst (tCons (tOp (rIxL K) (tVar 8) (tOp rModP (tCB rIntI (tCons (tVar 3) tNil)) (tCB (rLenQ K) (tCons (tVar 8) tNil)))) tNil))) (tSl (rSlL K) (tVar 0) (tPart (tOp rPlus (tVar 12) (tOp rModP (tCB rIntI (tCons (tVar 4) tNil)) (tC (.int 2))))) tNoPart))))))))))))))))))

abbrev N__law_same_picture : List Str := ["_law_picture", "_law_due"]

/-- slots: 0 _law_picture, 1 _law_due -/
def t__law_same_picture (A : Ad) (K : Frag) (w : World) : TS :=
  (tRet (tAndV (tOp (rEqD K) (tFld K (tVar 0) "statics") (tOp (rIxT K) (tVar 1) (tC (.int 0)))) (tAndV (tOp (rEqD K) (tFld K (tVar 0) "frames") (tOp (rIxT K) (tVar 1) (tC (.int 1)))) (tAndV (tOp (rEqD K) (tFld K (tVar 0) "watched") (tOp (rIxT K) (tVar 1) (tC (.int 2)))) (tAndV (tOp (rEqD K) (tFld K (tVar 0) "parted") (tOp (rIxT K) (tVar 1) (tC (.int 3)))) (tOp (rEqD K) (tFld K (tVar 0) "objects") (tOp (rIxT K) (tVar 1) (tC (.int 4)))))))))

abbrev N_number_word : List Str := ["n"]

/-- slots: 0 n -/
def t_number_word (A : Ad) (K : Frag) (w : World) : TS :=
  (tRet (tOp rPlus (tOp rTimes (tC (.int 2)) (tCall (sp_wrap A K) [] E0 (tCons (tVar 0) tNil))) (tC (.int 1))))

abbrev N_word_text : List Str := ["word"]

/-- slots: 0 word -/
def t_word_text (A : Ad) (K : Frag) (w : World) : TS :=
  (tSeq (tIfS (tTest (tOp rEq (tVar 0) (tC (.int 0)))) (tRet (tC (.str "nil"))) tNext)
  (tSeq (tIfS (tB (tCall (sp_is_number A K) [] E0 (tCons (tVar 0) tNil))) (tRet (tCB rStrI (tCons (tCall (sp_number_of A K) [] E0 (tCons (tVar 0) tNil)) tNil))) tNext)
  (tRet (tOp rAddS (tC (.str "@")) (tCB rStrI (tCons (tOp rMinus (tCall (sp_address_of A K) [] E0 (tCons (tVar 0) tNil)) (tC (.int 1))) tNil))))))

abbrev N_integer_between : List Str := ["text", "least", "most", "number"]

/-- slots: 0 text, 1 least, 2 most, 3 number -/
def t_integer_between (A : Ad) (K : Frag) (w : World) : TS :=
  (tSeq (tAsg (tCall (sp_integer_of A K) [] E0 (tCons (tVar 0) tNil)) (gName 3))
  (tSeq (tIfS (tOr (tTest (tOp rIsN' (tVar 3) (tC .non))) (tOr (tTest (tOp rLt (tVar 3) (tVar 1))) (tTest (tOp rGt' (tVar 3) (tVar 2))))) (tRet (tC .non)) tNext)
  (tRet (tVar 3))))

abbrev N__law_words : List Str := ["_law_cell_here", "_law_many", "_law_row_here", "_law_k"]

/-- slots: 0 _law_cell_here, 1 _law_many, 2 _law_row_here, 3 _law_k -/
def t__law_words (A : Ad) (K : Frag) (w : World) : TS :=
  (tSeq (tAsg (tCall (sp__law_digits A K) [] E0 (tCons (tVar 0) (tCons (tOp rRep (tLst (tCons (tC (.int 9)) (tCons (tC (.int 4294967296)) tNil))) (tVar 1)) tNil))) (gName 2))
  (tRet (tLc (iRng1 (tCons (tVar 1) tNil)) (gName 3) tYes (tCall (sp__law_word A K) [] E0 (tCons (tOp (rIxL K) (tVar 2) (tOp rTimes (tC (.int 2)) (tVar 3))) (tCons (tOp (rIxL K) (tVar 2) (tOp rPlus (tOp rTimes (tC (.int 2)) (tVar 3)) (tC (.int 1)))) tNil))) [3])))

abbrev N__law_line : List Str := ["_law_first", "_law_words_here", "_law_word_here"]

/-- slots: 0 _law_first, 1 _law_words_here, 2 _law_word_here -/
def t__law_line (A : Ad) (K : Frag) (w : World) : TS :=
  (tRet (tOp rAddS (tM1 (rJoin K) (tC (.str " ")) (tOp rCat (tLst (tCons (tVar 0) tNil)) (tLc (iOr (iList K (tVar 1)) (iTup K (tVar 1))) (gName 2) tYes (tCall (sp__law_said A K) [] E0 (tCons (tVar 2) tNil)) [2]))) (tC (.str "\n"))))

abbrev N__law_edited : List Str := ["_law_text_here", "_law_row_here", "_law_signs", "_law_odd", "_law_rows", "_law_lines", "_law_at", "_law_other", "_law_spot", "_law_sign", "_law_words_here", "_law_place", "_law_kept"]

/-- slots: 0 _law_text_here, 1 _law_row_here, 2 _law_signs, 3 _law_odd, 4 _law_rows, 5 _law_lines, 6 _law_at, 7 _law_other, 8 _law_spot, 9 _law_sign, 10 _law_words_here, 11 _law_place, 12 _law_kept -/
def t__law_edited (A : Ad) (K : Frag) (w : World) : TS :=
  (tSeq (tAsg (tC (.str " 0123456789-@nilabcdefghijklmnopqrstuvwxyzAZ_+.:#/~\n")) (gName 2))
  (tSeq (tAsg (tLst (tCons (tC (.str "")) (tCons (tC (.str "nil")) (tCons (tC (.str "0")) (tCons (tC (.str "-0")) (tCons (tC (.str "00")) (tCons (tC (.str "01")) (tCons (tC (.str "+1")) (tCons (tC (.str "@")) (tCons (tC (.str "@0")) (tCons (tC (.str "@-1")) (tCons (tC (.str "@-0")) (tCons (tC (.str "@00")) (tCons (tC (.str "@99999")) (tCons (tC (.str "@100000")) (tCons (tC (.str "Nil")) (tCons (tC (.str "nil0")) tNil))))))))))))))))) (gName 3))
  (tSeq (tAsg (tOp rCat (tVar 3) (tLst (tCons (tC (.str "2147483647")) (tCons (tC (.str "2147483648")) (tCons (tC (.str "-2147483648")) (tCons (tC (.str "-2147483649")) (tCons (tC (.str "-")) (tCons (tC (.str "--1")) (tCons (tC (.str "1_0")) (tCons (tC (.str "-1_0")) (tCons (tC (.str "@1_0")) (tCons (tC (.str "12345678901")) tNil)))))))))))) (gName 3))
  (tSeq (tAsg (tOp rCat (tVar 3) (tLst (tCons (tC (.str "num")) (tCons (tC (.str "mixed")) (tCons (tC (.str "unset")) (tCons (tC (.str "x9")) (tCons (tC (.str "9x")) (tCons (tC (.str "aA")) (tCons (tC (.str "a-b")) (tCons (tC (.str "abcdefghijklmnop")) (tCons (tC (.str "abcdefghijklmnopq")) (tCons (tC (.str "199")) (tCons (tC (.str "200")) tNil))))))))))))) (gName 3))
  (tSeq (tAsg (tOp rCat (tVar 3) (tLst (tCons (tC (.str "7")) (tCons (tC (.str "-7")) (tCons (tC (.str "@7")) (tCons (tC (.str "main")) (tCons (tOp rMulS (tC (.str "8")) (tC (.int 4400))) (tCons (tOp rAddS (tC (.str "-")) (tOp rMulS (tC (.str "8")) (tC (.int 4400)))) (tCons (tOp rAddS (tC (.str "@")) (tOp rMulS (tC (.str "8")) (tC (.int 4400)))) tNil))))))))) (gName 3))
  (tSeq (tAsg (tLst (tCons (tC (.str "static")) (tCons (tC (.str "static 1")) (tCons (tC (.str "static 1 2")) (tCons (tC (.str "static nil")) (tCons (tC (.str "frame main")) (tCons (tC (.str "frame main 0")) (tCons (tC (.str "frame main 0 0")) (tCons (tC (.str "frame num 0")) tNil))))))))) (gName 4))
  (tSeq (tAsg (tOp rCat (tVar 4) (tLst (tCons (tC (.str "frame main 200")) (tCons (tC (.str "frame main nil")) (tCons (tC (.str "slots")) (tCons (tC (.str "slots nil")) (tCons (tC (.str "stack")) (tCons (tC (.str "stack 1")) (tCons (tC (.str "watched")) (tCons (tC (.str "parted")) (tCons (tC (.str "object")) tNil))))))))))) (gName 4))
  (tSeq (tAsg (tOp rCat (tVar 4) (tLst (tCons (tC (.str "object box")) (tCons (tC (.str "object box 1")) (tCons (tC (.str "object unset")) (tCons (tC (.str "")) (tCons (tC (.str " ")) (tCons (tC (.str "objects box")) tNil)))))))) (gName 4))
  (tSeq (tAsg (tM1 rSplit (tVar 0) (tC (.str "\n"))) (gName 5))
  (tSeq (tAsg (tOp rModP (tCB rIntI (tCons (tOp (rIxL K) (tVar 1) (tC (.int 1))) tNil)) (tCB (rLenQ K) (tCons (tVar 5) tNil))) (gName 6))
  (tSeq (tAsg (tOp rModP (tCB rIntI (tCons (tOp (rIxL K) (tVar 1) (tC (.int 2))) tNil)) (tCB (rLenQ K) (tCons (tVar 5) tNil))) (gName 7))
  (tSeq (tAsg (tOp rModP (tCB rIntI (tCons (tOp (rIxL K) (tVar 1) (tC (.int 1))) tNil)) (tOp rPlus (tCB rLenS (tCons (tVar 0) tNil)) (tC (.int 1)))) (gName 8))
  (tSeq (tAsg (tOp rIxS (tVar 2) (tOp rModP (tCB rIntI (tCons (tOp (rIxL K) (tVar 1) (tC (.int 2))) tNil)) (tCB rLenS (tCons (tVar 2) tNil)))) (gName 9))
  (tSeq (tAsg (tM1 rSplit (tOp (rIxL K) (tVar 5) (tVar 6)) (tC (.str " "))) (gName 10))
  (tSeq (tAsg (tOp rModP (tCB rIntI (tCons (tOp (rIxL K) (tVar 1) (tC (.int 2))) tNil)) (tCB (rLenQ K) (tCons (tVar 10) tNil))) (gName 11))
  (tSeq (tIfS (tTest (tOp rEq (tOp (rIxL K) (tVar 1) (tC (.int 0))) (tC (.int 1)))) (tRet (tOp rAddS (tOp rAddS (tSl rSlS (tVar 0) tNoPart (tPart (tVar 8))) (tVar 9)) (tSl rSlS (tVar 0) (tPart (tOp rPlus (tVar 8) (tC (.int 1)))) tNoPart))) tNext)
  (tSeq (tIfS (tTest (tOp rEq (tOp (rIxL K) (tVar 1) (tC (.int 0))) (tC (.int 2)))) (tRet (tOp rAddS (tOp rAddS (tSl rSlS (tVar 0) tNoPart (tPart (tVar 8))) (tVar 9)) (tSl rSlS (tVar 0) (tPart (tVar 8)) tNoPart))) tNext)
  (tSeq (tIfS (tTest (tOp rEq (tOp (rIxL K) (tVar 1) (tC (.int 0))) (tC (.int 3)))) (tRet (tOp rAddS (tSl rSlS (tVar 0) tNoPart (tPart (tVar 8))) (tSl rSlS (tVar 0) (tPart (tOp rPlus (tVar 8) (tC (.int 1)))) tNoPart))) tNext)
  (tSeq (tIfS (tTest (tOp rEq (tOp (rIxL K) (tVar 1) (tC (.int 0))) (tC (.int 4)))) (tRet (tSl rSlS (tVar 0) tNoPart (tPart (tVar 8)))) tNext)
  (tSeq (tIfS (tTest (tOp rEq (tOp (rIxL K) (tVar 1) (tC (.int 0))) (tC (.int 5)))) (tRet (tOp rAddS (tOp rAddS (tVar 0) (tOp (rIxL K) (tVar 4) (tOp (rIxL K) (tVar 1) (tC (.int 4))))) (tOp (rIxL K) (tLst (tCons (tC (.str "\n")) (tCons (tC (.str "")) tNil))) (tOp rModP (tCB rIntI (tCons (tOp (rIxL K) (tVar 1) (tC (.int 3))) tNil)) (tC (.int 2)))))) tNext)
  (tSeq (tIfS (tTest (tOp rEq (tOp (rIxL K) (tVar 1) (tC (.int 0))) (tC (.int 6)))) (tAsg (tOp rCat (tSl (rSlL K) (tVar 5) tNoPart (tPart (tVar 6))) (tSl (rSlL K) (tVar 5) (tPart (tOp rPlus (tVar 6) (tC (.int 1)))) tNoPart)) (gName 5)) tNext)
  (tSeq (tIfS (tTest (tOp rEq (tOp (rIxL K) (tVar 1) (tC (.int 0))) (tC (.int 7)))) (tAsg (tOp rCat (tOp rCat (tSl (rSlL K) (tVar 5) tNoPart (tPart (tVar 6))) (tLst (tCons (tOp (rIxL K) (tVar 5) (tVar 6)) tNil))) (tSl (rSlL K) (tVar 5) (tPart (tVar 6)) tNoPart)) (gName 5)) tNext)
  (tSeq (tIfS (tTest (tOp rEq (tOp (rIxL K) (tVar 1) (tC (.int 0))) (tC (.int 8)))) (tSeq (tAsg (tOp (rIxL K) (tVar 5) (tVar 6)) (gName 12))
  (tSeq (tAsg (tOp (rIxL K) (tVar 5) (tVar 7)) (gSub (tVar 5) (tVar 6) rSetL))
  (tAsg (tVar 12) (gSub (tVar 5) (tVar 7) rSetL)))) tNext)
  (tSeq (tIfS (tTest (tOp rEq (tOp (rIxL K) (tVar 1) (tC (.int 0))) (tC (.int 9)))) (tAsg (tOp rCat (tOp rCat (tSl (rSlL K) (tVar 5) tNoPart (tPart (tVar 6))) (tLst (tCons (tOp (rIxL K) (tVar 4) (tOp (rIxL K) (tVar 1) (tC (.int 4)))) tNil))) (tSl (rSlL K) (tVar 5) (tPart (tVar 6)) tNoPart)) (gName 5)) tNext)
  (tSeq (tIfS (tTest (tOp rEq (tOp (rIxL K) (tVar 1) (tC (.int 0))) (tC (.int 10)))) (tAsg (tM1 (rJoin K) (tC (.str " ")) (tOp rCat (tOp rCat (tSl (rSlL K) (tVar 10) tNoPart (tPart (tVar 11))) (tLst (tCons (tOp (rIxL K) (tVar 3) (tOp (rIxL K) (tVar 1) (tC (.int 3)))) tNil))) (tSl (rSlL K) (tVar 10) (tPart (tOp rPlus (tVar 11) (tC (.int 1)))) tNoPart))) (gSub (tVar 5) (tVar 6) rSetL)) tNext)
  (tSeq (tIfS (tTest (tOp rEq (tOp (rIxL K) (tVar 1) (tC (.int 0))) (tC (.int 11)))) (tSeq (tAsg (tOp rModP (tCB rIntI (tCons (tOp (rIxL K) (tVar 1) (tC (.int 2))) tNil)) (tOp rPlus (tCB (rLenQ K) (tCons (tVar 10) tNil)) (tC (.int 1)))) (gName 11))
  (tAsg (tM1 (rJoin K) (tC (.str " ")) (tOp rCat (tOp rCat (tSl (rSlL K) (tVar 10) tNoPart (tPart (tVar 11))) (tLst (tCons (tOp (rIxL K) (tVar 3) (tOp (rIxL K) (tVar 1) (tC (.int 3)))) tNil))) (tSl (rSlL K) (tVar 10) (tPart (tVar 11)) tNoPart))) (gSub (tVar 5) (tVar 6) rSetL))) tNext)
  (tSeq (tIfS (tTest (tOp rEq (tOp (rIxL K) (tVar 1) (tC (.int 0))) (tC (.int 12)))) (tAsg (tM1 (rJoin K) (tC (.str " ")) (tOp rCat (tSl (rSlL K) (tVar 10) tNoPart (tPart (tVar 11))) (tSl (rSlL K) (tVar 10) (tPart (tOp rPlus (tVar 11) (tC (.int 1)))) tNoPart))) (gSub (tVar 5) (tVar 6) rSetL)) tNext)
  (tSeq (tIfS (tTest (tOp rGt' (tOp (rIxL K) (tVar 1) (tC (.int 0))) (tC (.int 12)))) (tAsg (tCall (sp__law_aimed A K) [] E0 (tCons (tVar 5) (tCons (tOp (rIxL K) (tLst (tCons (tC (.int 13)) (tCons (tC (.int 14)) (tCons (tC (.int 15)) (tCons (tC (.int 16)) (tCons (tC (.int 17)) (tCons (tC (.int 14)) (tCons (tC (.int 14)) (tCons (tC (.int 15)) (tCons (tC (.int 16)) tNil)))))))))) (tOp rMinus (tOp (rIxL K) (tVar 1) (tC (.int 0))) (tC (.int 13)))) (tCons (tOp (rIxL K) (tVar 1) (tC (.int 1))) (tCons (tOp (rIxL K) (tVar 1) (tC (.int 2))) (tCons (tOp (rIxL K) (tVar 1) (tC (.int 3))) tNil)))))) (gName 5)) tNext)
  (tRet (tM1 (rJoin K) (tC (.str "\n")) (tVar 5)))))))))))))))))))))))))))))))

abbrev N__law_row : List Str := ["_law_words_here", "_law_word_here"]

/-- slots: 0 _law_words_here, 1 _law_word_here -/
def t__law_row (A : Ad) (K : Frag) (w : World) : TS :=
  (tRet (tAndV (tCB (rIsi K) (tCons (tVar 0) (tCons (tC (.ty "tuple")) tNil))) (tOp rEq (tCB (rLenQ K) (tCons (tLc (iTup K (tVar 0)) (gName 1) (tNot (tB (tCall (sp__law_whole A K) [] E0 (tCons (tVar 1) tNil)))) (tVar 1) [1]) tNil)) (tC (.int 0)))))

abbrev N_line_text : List Str := ["first", "words", "word"]

/-- slots: 0 first, 1 words, 2 word -/
def t_line_text (A : Ad) (K : Frag) (w : World) : TS :=
  (tRet (tOp rAddS (tM1 (rJoin K) (tC (.str " ")) (tOp rCat (tLst (tCons (tVar 0) tNil)) (tLc (iTup K (tVar 1)) (gName 2) tYes (tCall (sp_word_text A K) [] E0 (tCons (tVar 2) tNil)) [2]))) (tC (.str "\n"))))

abbrev N_word_of : List Str := ["text", "number"]

/-- slots: 0 text, 1 number -/
def t_word_of (A : Ad) (K : Frag) (w : World) : TS :=
  (tSeq (tIfS (tTest (tOp rEq (tVar 0) (tC (.str "nil")))) (tRet (tC (.int 0))) tNext)
  (tSeq (tIfS (tTest (tOp rEq (tSl rSlS (tVar 0) tNoPart (tPart (tC (.int 1)))) (tC (.str "@")))) (tSeq (tAsg (tCall (sp_integer_between A K) [] E0 (tCons (tSl rSlS (tVar 0) (tPart (tC (.int 1))) tNoPart) (tCons (tC (.int 0)) (tCons (tC (.int 99999)) tNil)))) (gName 1))
  (tSeq (tIfS (tTest (tOp rIsN' (tVar 1) (tC .non))) (tRet (tC .non)) tNext)
  (tRet (tCall (sp_reference_word A K) [] E0 (tCons (tOp rPlus (tVar 1) (tC (.int 1))) tNil))))) tNext)
  (tSeq (tAsg (tCall (sp_integer_between A K) [] E0 (tCons (tVar 0) (tCons (tC (.int (-2147483648))) (tCons (tC (.int 2147483647)) tNil)))) (gName 1))
  (tSeq (tIfS (tTest (tOp rIsN' (tVar 1) (tC .non))) (tRet (tC .non)) tNext)
  (tRet (tCall (sp_number_word A K) [] E0 (tCons (tVar 1) tNil)))))))

abbrev N_frame_content : List Str := ["texts", "place"]

/-- slots: 0 texts, 1 place -/
def t_frame_content (A : Ad) (K : Frag) (w : World) : TS :=
  (tSeq (tIfS (tOr (tTest (tOp rNe (tCB (rLenQ K) (tCons (tVar 0) tNil)) (tC (.int 3)))) (tNot (tB (tCall (sp_is_name A K) [] E0 (tCons (tOp (rIxL K) (tVar 0) (tC (.int 1))) tNil))))) (tRet (tC .non)) tNext)
  (tSeq (tAsg (tCall (sp_integer_between A K) [] E0 (tCons (tOp (rIxL K) (tVar 0) (tC (.int 2))) (tCons (tC (.int 0)) (tCons (tC (.int 199)) tNil)))) (gName 1))
  (tSeq (tIfS (tTest (tOp rIsN' (tVar 1) (tC .non))) (tRet (tC .non)) tNext)
  (tRet (tTup (tCons (tOp (rIxL K) (tVar 0) (tC (.int 1))) (tCons (tVar 1) tNil)))))))

abbrev N__law_free : List Str := ["_law_script", "_law_at", "_law_head", "_law_many", "_law_statics", "_law_watched", "_law_parted", "_law_frames", "_law_k", "_law_objects", "_law_row_here", "_law_words_here", "_law_slots", "_law_stack"]

/-- slots: 0 _law_script, 1 _law_at, 2 _law_head, 3 _law_many, 4 _law_statics, 5 _law_watched, 6 _law_parted, 7 _law_frames, 8 _law_k, 9 _law_objects, 10 _law_row_here, 11 _law_words_here, 12 _law_slots, 13 _law_stack -/
def t__law_free (A : Ad) (K : Frag) (w : World) : TS :=
  (tSeq (tAsg (tCall (sp__law_digits A K) [] E0 (tCons (tCall (sp__law_cell A K) [] E0 (tCons (tVar 0) (tCons (tVar 1) tNil))) (tCons (tLst (tCons (tC (.int 8)) (tCons (tC (.int 5)) (tCons (tC (.int 5)) (tCons (tC (.int 6)) (tCons (tC (.int 6)) (tCons (tC (.int 9)) (tCons (tC (.int 25)) (tCons (tC (.int 46)) (tCons (tC (.int 61)) tNil)))))))))) tNil))) (gName 2))
  (tSeq (tAsg (tLst (tCons (tOp (rIxL K) (tLst (tCons (tOp (rIxL K) (tVar 2) (tC (.int 1))) (tCons (tOp (rIxL K) (tVar 2) (tC (.int 6))) tNil))) (tCB rIntB (tCons (tOp rEq (tOp (rIxL K) (tVar 2) (tC (.int 0))) (tC (.int 1))) tNil))) (tCons (tOp (rIxL K) (tLst (tCons (tOp (rIxL K) (tVar 2) (tC (.int 2))) (tCons (tOp (rIxL K) (tVar 2) (tC (.int 7))) tNil))) (tCB rIntB (tCons (tOp rEq (tOp (rIxL K) (tVar 2) (tC (.int 0))) (tC (.int 2))) tNil))) tNil))) (gName 3))
  (tSeq (tAsg (tOp rCat (tVar 3) (tLst (tCons (tOp (rIxL K) (tLst (tCons (tOp (rIxL K) (tVar 2) (tC (.int 3))) (tCons (tC (.int 30)) tNil))) (tCB rIntB (tCons (tOp rEq (tOp (rIxL K) (tVar 2) (tC (.int 0))) (tC (.int 3))) tNil))) (tCons (tOp (rIxL K) (tVar 2) (tC (.int 4))) (tCons (tOp (rIxL K) (tLst (tCons (tOp (rIxL K) (tVar 2) (tC (.int 5))) (tCons (tOp (rIxL K) (tVar 2) (tC (.int 8))) tNil))) (tCB rIntB (tCons (tOp rEq (tOp (rIxL K) (tVar 2) (tC (.int 0))) (tC (.int 4))) tNil))) tNil))))) (gName 3))
  (tSeq (tAsg (tSl (rSlL K) (tCall (sp__law_words A K) [] E0 (tCons (tCall (sp__law_cell A K) [] E0 (tCons (tVar 0) (tCons (tOp rPlus (tVar 1) (tC (.int 1))) tNil))) (tCons (tC (.int 24)) tNil))) tNoPart (tPart (tOp (rIxL K) (tVar 3) (tC (.int 0))))) (gName 4))
  (tSeq (tAsg (tSl (rSlL K) (tCall (sp__law_words A K) [] E0 (tCons (tCall (sp__law_cell A K) [] E0 (tCons (tVar 0) (tCons (tOp rPlus (tVar 1) (tC (.int 2))) tNil))) (tCons (tC (.int 30)) tNil))) tNoPart (tPart (tOp (rIxL K) (tVar 3) (tC (.int 2))))) (gName 5))
  (tSeq (tAsg (tSl (rSlL K) (tCall (sp__law_words A K) [] E0 (tCons (tCall (sp__law_cell A K) [] E0 (tCons (tVar 0) (tCons (tOp rPlus (tVar 1) (tC (.int 3))) tNil))) (tCons (tC (.int 30)) tNil))) tNoPart (tPart (tOp (rIxL K) (tVar 3) (tC (.int 3))))) (gName 6))
  (tSeq (tAsg (tLst tNil) (gName 7))
  (tSeq (tFor (iRng1 (tCons (tOp (rIxL K) (tVar 3) (tC (.int 1))) tNil)) (gName 8)
    (tSeq (tAsg (tCall (sp__law_digits A K) [] E0 (tCons (tCall (sp__law_cell A K) [] E0 (tCons (tVar 0) (tCons (tOp rPlus (tOp rPlus (tVar 1) (tC (.int 4))) (tOp rModP (tCB rIntI (tCons (tVar 8) tNil)) (tC (.int 8)))) tNil))) (tCons (tOp rCat (tLst (tCons (tC (.int 200)) (tCons (tC (.int 8)) (tCons (tC (.int 7)) (tCons (tC (.int 16)) (tCons (tC (.int 26)) tNil)))))) (tOp rRep (tLst (tCons (tC (.int 36)) tNil)) (tC (.int 15)))) tNil))) (gName 10))
  (tSeq (tAsg (tCall (sp__law_words A K) [] E0 (tCons (tCall (sp__law_cell A K) [] E0 (tCons (tVar 0) (tCons (tOp rPlus (tOp rPlus (tVar 1) (tC (.int 12))) (tOp rModP (tCB rIntI (tCons (tVar 8) tNil)) (tC (.int 8)))) tNil))) (tCons (tC (.int 24)) tNil))) (gName 11))
  (tSeq (tAsg (tSl (rSlL K) (tVar 11) tNoPart (tPart (tOp (rIxL K) (tLst (tCons (tC (.int 0)) (tCons (tC (.int 1)) (tCons (tC (.int 2)) (tCons (tC (.int 3)) (tCons (tC (.int 4)) (tCons (tC (.int 5)) (tCons (tC (.int 6)) (tCons (tC (.int 17)) tNil))))))))) (tOp (rIxL K) (tVar 10) (tC (.int 1)))))) (gName 12))
  (tSeq (tAsg (tSl (rSlL K) (tOp rCat (tVar 11) (tVar 11)) (tPart (tC (.int 17))) (tPart (tOp rPlus (tC (.int 17)) (tOp (rIxL K) (tLst (tCons (tC (.int 0)) (tCons (tC (.int 1)) (tCons (tC (.int 2)) (tCons (tC (.int 3)) (tCons (tC (.int 6)) (tCons (tC (.int 12)) (tCons (tC (.int 31)) tNil)))))))) (tOp (rIxL K) (tVar 10) (tC (.int 2))))))) (gName 13))
  (tDrop (tBM K "list" rAppend (tVar 7) (tCons (tTup (tCons (tCall (sp__law_name A K) [] E0 (tCons (tSl (rSlL K) (tVar 10) (tPart (tC (.int 3))) tNoPart) tNil)) (tCons (tOp rModP (tCB rIntI (tCons (tOp rPlus (tOp (rIxL K) (tVar 10) (tC (.int 0))) (tOp rDivP (tVar 8) (tC (.int 8)))) tNil)) (tC (.int 200))) (tCons (tCB (rTupOf K) (tCons (tVar 12) tNil)) (tCons (tCB (rTupOf K) (tCons (tVar 13) tNil)) tNil))))) tNil))))))))
  (tSeq (tAsg (tLst tNil) (gName 9))
  (tSeq (tFor (iRng1 (tCons (tOp (rIxL K) (tVar 3) (tC (.int 4))) tNil)) (gName 8)
    (tSeq (tAsg (tCall (sp__law_digits A K) [] E0 (tCons (tCall (sp__law_cell A K) [] E0 (tCons (tVar 0) (tCons (tOp rPlus (tOp rPlus (tVar 1) (tC (.int 20))) (tOp rModP (tCB rIntI (tCons (tVar 8) tNil)) (tC (.int 10)))) tNil))) (tCons (tOp rCat (tLst (tCons (tC (.int 9)) (tCons (tC (.int 16)) (tCons (tC (.int 26)) tNil)))) (tOp rRep (tLst (tCons (tC (.int 36)) tNil)) (tC (.int 15)))) tNil))) (gName 10))
  (tSeq (tAsg (tSl (rSlL K) (tCall (sp__law_words A K) [] E0 (tCons (tCall (sp__law_cell A K) [] E0 (tCons (tVar 0) (tCons (tOp rPlus (tOp rPlus (tVar 1) (tC (.int 30))) (tOp rModP (tCB rIntI (tCons (tVar 8) tNil)) (tC (.int 10)))) tNil))) (tCons (tC (.int 30)) tNil))) tNoPart (tPart (tOp (rIxL K) (tLst (tCons (tC (.int 0)) (tCons (tC (.int 1)) (tCons (tC (.int 2)) (tCons (tC (.int 3)) (tCons (tC (.int 4)) (tCons (tC (.int 8)) (tCons (tC (.int 12)) (tCons (tC (.int 2)) (tCons (tC (.int 30)) tNil)))))))))) (tOp (rIxL K) (tVar 10) (tC (.int 0)))))) (gName 11))
  (tSeq (tIfS (tAnd (tTest (tOp rEq (tVar 8) (tC (.int 0)))) (tTest (tOp rEq (tOp (rIxL K) (tVar 2) (tC (.int 0))) (tC (.int 5))))) (tAsg (tSl (rSlL K) (tOp rRep (tVar 11) (tC (.int 1002))) tNoPart (tPart (tC (.int 1002)))) (gName 11)) tNext)
  (tDrop (tBM K "list" rAppend (tVar 9) (tCons (tTup (tCons (tCall (sp__law_name A K) [] E0 (tCons (tSl (rSlL K) (tVar 10) (tPart (tC (.int 1))) tNoPart) tNil)) (tCons (tCB (rTupOf K) (tCons (tVar 11) tNil)) tNil))) tNil)))))))
  (tRet (tTup (tCons (tCB (rTupOf K) (tCons (tVar 4) tNil)) (tCons (tCB (rTupOf K) (tCons (tVar 7) tNil)) (tCons (tCB (rTupOf K) (tCons (tVar 5) tNil)) (tCons (tCB (rTupOf K) (tCons (tVar 6) tNil)) (tCons (tCB (rTupOf K) (tCons (tVar 9) tNil)) tNil)))))))))))))))))

abbrev N__law_text : List Str := ["_law_data", "_law_lines", "_law_frame", "_law_one", "_law_word_here"]

/-- slots: 0 _law_data, 1 _law_lines, 2 _law_frame, 3 _law_one, 4 _law_word_here -/
def t__law_text (A : Ad) (K : Frag) (w : World) : TS :=
  (tSeq (tAsg (tLc (iTup K (tOp (rIxT K) (tVar 0) (tC (.int 0)))) (gName 4) tYes (tCall (sp__law_line A K) [] E0 (tCons (tC (.str "static")) (tCons (tLst (tCons (tVar 4) tNil)) tNil))) [4]) (gName 1))
  (tSeq (tFor (iTup K (tOp (rIxT K) (tVar 0) (tC (.int 1)))) (gName 2)
    (tSeq (tDrop (tBM K "list" rAppend (tVar 1) (tCons (tOp rAddS (tOp rAddS (tOp rAddS (tOp rAddS (tC (.str "frame ")) (tOp (rIxT K) (tVar 2) (tC (.int 0)))) (tC (.str " "))) (tCB rStrI (tCons (tOp (rIxT K) (tVar 2) (tC (.int 1))) tNil))) (tC (.str "\n"))) tNil)))
  (tSeq (tDrop (tBM K "list" rAppend (tVar 1) (tCons (tCall (sp__law_line A K) [] E0 (tCons (tC (.str "slots")) (tCons (tOp (rIxT K) (tVar 2) (tC (.int 2))) tNil))) tNil)))
  (tDrop (tBM K "list" rAppend (tVar 1) (tCons (tCall (sp__law_line A K) [] E0 (tCons (tC (.str "stack")) (tCons (tOp (rIxT K) (tVar 2) (tC (.int 3))) tNil))) tNil))))))
  (tSeq (tDrop (tBM K "list" rAppend (tVar 1) (tCons (tCall (sp__law_line A K) [] E0 (tCons (tC (.str "watched")) (tCons (tOp (rIxT K) (tVar 0) (tC (.int 2))) tNil))) tNil)))
  (tSeq (tDrop (tBM K "list" rAppend (tVar 1) (tCons (tCall (sp__law_line A K) [] E0 (tCons (tC (.str "parted")) (tCons (tOp (rIxT K) (tVar 0) (tC (.int 3))) tNil))) tNil)))
  (tSeq (tFor (iTup K (tOp (rIxT K) (tVar 0) (tC (.int 4)))) (gName 3)
    (tDrop (tBM K "list" rAppend (tVar 1) (tCons (tCall (sp__law_line A K) [] E0 (tCons (tOp rAddS (tC (.str "object ")) (tOp (rIxT K) (tVar 3) (tC (.int 0)))) (tCons (tOp (rIxT K) (tVar 3) (tC (.int 1))) tNil))) tNil))))
  (tRet (tM1 (rJoin K) (tC (.str "")) (tVar 1))))))))

abbrev N__law_sound : List Str := ["_law_picture", "_law_frame", "_law_one"]

/-- slots: 0 _law_picture, 1 _law_frame, 2 _law_one -/
def t__law_sound (A : Ad) (K : Frag) (w : World) : TS :=
  (tSeq (tIfS (tOr (tNot (tB (tCB (rIsi K) (tCons (tVar 0) (tCons (tC (.ref A.C)) tNil))))) (tOr (tNot (tB (tCall (sp__law_row A K) [] E0 (tCons (tFld K (tVar 0) "statics") tNil)))) (tNot (tB (tCall (sp__law_row A K) [] E0 (tCons (tFld K (tVar 0) "watched") tNil)))))) (tRet (tC (.bl false))) tNext)
  (tSeq (tIfS (tOr (tNot (tB (tCall (sp__law_row A K) [] E0 (tCons (tFld K (tVar 0) "parted") tNil)))) (tOr (tNot (tB (tCB (rIsi K) (tCons (tFld K (tVar 0) "frames") (tCons (tC (.ty "tuple")) tNil))))) (tNot (tB (tCB (rIsi K) (tCons (tFld K (tVar 0) "objects") (tCons (tC (.ty "tuple")) tNil))))))) (tRet (tC (.bl false))) tNext)
  (tSeq (tFor (iTup K (tFld K (tVar 0) "frames")) (gName 1)
    (tSeq (tIfS (tOr (tNot (tB (tCB (rIsi K) (tCons (tVar 1) (tCons (tC (.ty "tuple")) tNil))))) (tOr (tTest (tOp rNe (tCB (rLenQ K) (tCons (tVar 1) tNil)) (tC (.int 4)))) (tOr (tNot (tB (tCB (rIsi K) (tCons (tOp (rIxT K) (tVar 1) (tC (.int 0))) (tCons (tC (.ty "str")) tNil))))) (tNot (tB (tCall (sp__law_whole A K) [] E0 (tCons (tOp (rIxT K) (tVar 1) (tC (.int 1))) tNil))))))) (tRet (tC (.bl false))) tNext)
  (tIfS (tOr (tNot (tB (tCall (sp__law_row A K) [] E0 (tCons (tOp (rIxT K) (tVar 1) (tC (.int 2))) tNil)))) (tNot (tB (tCall (sp__law_row A K) [] E0 (tCons (tOp (rIxT K) (tVar 1) (tC (.int 3))) tNil))))) (tRet (tC (.bl false))) tNext)))
  (tSeq (tFor (iTup K (tFld K (tVar 0) "objects")) (gName 2)
    (tIfS (tOr (tNot (tB (tCB (rIsi K) (tCons (tVar 2) (tCons (tC (.ty "tuple")) tNil))))) (tOr (tTest (tOp rNe (tCB (rLenQ K) (tCons (tVar 2) tNil)) (tC (.int 2)))) (tOr (tNot (tB (tCB (rIsi K) (tCons (tOp (rIxT K) (tVar 2) (tC (.int 0))) (tCons (tC (.ty "str")) tNil))))) (tNot (tB (tCall (sp__law_row A K) [] E0 (tCons (tOp (rIxT K) (tVar 2) (tC (.int 1))) tNil))))))) (tRet (tC (.bl false))) tNext))
  (tRet (tC (.bl true)))))))

abbrev N_words_of : List Str := ["texts", "words", "text"]

/-- slots: 0 texts, 1 words, 2 text -/
def t_words_of (A : Ad) (K : Frag) (w : World) : TS :=
  (tSeq (tAsg (tLc (iList K (tVar 0)) (gName 2) tYes (tCall (sp_word_of A K) [] E0 (tCons (tVar 2) tNil)) [2]) (gName 1))
  (tSeq (tIfS (tTest (tOp (rIn K false) (tC .non) (tVar 1))) (tRet (tC .non)) tNext)
  (tRet (tCB (rTupOf K) (tCons (tVar 1) tNil)))))

abbrev N_write_image : List Str := ["picture", "lines", "name", "place", "slots", "stack", "shape_name", "payload", "word"]

/-- slots: 0 picture, 1 lines, 2 name, 3 place, 4 slots, 5 stack, 6 shape_name, 7 payload, 8 word -/
def t_write_image (A : Ad) (K : Frag) (w : World) : TS :=
  (tSeq (tAsg (tLc (iTup K (tFld K (tVar 0) "statics")) (gName 8) tYes (tCall (sp_line_text A K) [] E0 (tCons (tC (.str "static")) (tCons (tTup (tCons (tVar 8) tNil)) tNil))) [8]) (gName 1))
  (tSeq (tFor (iTup K (tFld K (tVar 0) "frames")) (gTup K 4 (gCons (gName 2) (gCons (gName 3) (gCons (gName 4) (gCons (gName 5) gNil)))))
    (tSeq (tDrop (tBM K "list" rAppend (tVar 1) (tCons (tOp rAddS (tOp rAddS (tOp rAddS (tOp rAddS (tC (.str "frame ")) (tVar 2)) (tC (.str " "))) (tCB rStrI (tCons (tVar 3) tNil))) (tC (.str "\n"))) tNil)))
  (tSeq (tDrop (tBM K "list" rAppend (tVar 1) (tCons (tCall (sp_line_text A K) [] E0 (tCons (tC (.str "slots")) (tCons (tVar 4) tNil))) tNil)))
  (tDrop (tBM K "list" rAppend (tVar 1) (tCons (tCall (sp_line_text A K) [] E0 (tCons (tC (.str "stack")) (tCons (tVar 5) tNil))) tNil))))))
  (tSeq (tDrop (tBM K "list" rAppend (tVar 1) (tCons (tCall (sp_line_text A K) [] E0 (tCons (tC (.str "watched")) (tCons (tFld K (tVar 0) "watched") tNil))) tNil)))
  (tSeq (tDrop (tBM K "list" rAppend (tVar 1) (tCons (tCall (sp_line_text A K) [] E0 (tCons (tC (.str "parted")) (tCons (tFld K (tVar 0) "parted") tNil))) tNil)))
  (tSeq (tFor (iTup K (tFld K (tVar 0) "objects")) (gTup K 2 (gCons (gName 6) (gCons (gName 7) gNil)))
    (tDrop (tBM K "list" rAppend (tVar 1) (tCons (tCall (sp_line_text A K) [] E0 (tCons (tOp rAddS (tC (.str "object ")) (tVar 6)) (tCons (tVar 7) tNil))) tNil))))
  (tRet (tM1 (rJoin K) (tC (.str "")) (tVar 1))))))))

abbrev N_object_content : List Str := ["texts", "payload"]

/-- slots: 0 texts, 1 payload -/
def t_object_content (A : Ad) (K : Frag) (w : World) : TS :=
  (tSeq (tIfS (tOr (tTest (tOp rLt (tCB (rLenQ K) (tCons (tVar 0) tNil)) (tC (.int 2)))) (tNot (tB (tCall (sp_is_name A K) [] E0 (tCons (tOp (rIxL K) (tVar 0) (tC (.int 1))) tNil))))) (tRet (tC .non)) tNext)
  (tSeq (tAsg (tCall (sp_words_of A K) [] E0 (tCons (tSl (rSlL K) (tVar 0) (tPart (tC (.int 2))) tNoPart) tNil)) (gName 1))
  (tSeq (tIfS (tTest (tOp rIsN' (tVar 1) (tC .non))) (tRet (tC .non)) tNext)
  (tRet (tTup (tCons (tOp (rIxL K) (tVar 0) (tC (.int 1))) (tCons (tVar 1) tNil)))))))

abbrev N_line_content : List Str := ["texts"]

/-- slots: 0 texts -/
def t_line_content (A : Ad) (K : Frag) (w : World) : TS :=
  (tSeq (tIfS (tTest (tOp rEq (tOp (rIxL K) (tVar 0) (tC (.int 0))) (tC (.str "frame")))) (tRet (tCall (sp_frame_content A K) [] E0 (tCons (tVar 0) tNil))) tNext)
  (tSeq (tIfS (tTest (tOp rEq (tOp (rIxL K) (tVar 0) (tC (.int 0))) (tC (.str "object")))) (tRet (tCall (sp_object_content A K) [] E0 (tCons (tVar 0) tNil))) tNext)
  (tSeq (tIfS (tAnd (tTest (tOp rEq (tOp (rIxL K) (tVar 0) (tC (.int 0))) (tC (.str "static")))) (tTest (tOp rNe (tCB (rLenQ K) (tCons (tVar 0) tNil)) (tC (.int 2))))) (tRet (tC .non)) tNext)
  (tRet (tCall (sp_words_of A K) [] E0 (tCons (tSl (rSlL K) (tVar 0) (tPart (tC (.int 1))) tNoPart) tNil))))))

abbrev N_read_lines : List Str := ["text", "lines", "read", "last", "at", "texts", "content"]

/-- slots: 0 text, 1 lines, 2 read, 3 last, 4 at, 5 texts, 6 content -/
def t_read_lines (A : Ad) (K : Frag) (w : World) (E : XK) : TS :=
  (tSeq (tAsg (tM1 rSplit (tVar 0) (tC (.str "\n"))) (gName 1))
  (tSeq (tAsg (tLst tNil) (gName 2))
  (tSeq (tAsg (tC (.str "")) (gName 3))
  (tSeq (tFor (iRng1 (tCons (tOp rMinus (tCB (rLenQ K) (tCons (tVar 1) tNil)) (tC (.int 1))) tNil)) (gName 4)
    (tSeq (tAsg (tM1 rSplit (tOp (rIxL K) (tVar 1) (tVar 4)) (tC (.str " "))) (gName 5))
  (tSeq (tAsg (tC .non) (gName 6))
  (tSeq (tIfS (tTest (tOp (rIn K false) (tOp (rIxL K) (tVar 5) (tC (.int 0))) (tOp (rIxD K w) (tC (.ref A.F)) (tVar 3)))) (tAsg (tCall (sp_line_content A K) [] E0 (tCons (tVar 5) tNil)) (gName 6)) tNext)
  (tSeq (tIfS (tTest (tOp rIsN' (tVar 6) (tC .non))) (fun _ σ H => tMkO A.B (spBad A K) [] (tCons (tOp rPlus (tVar 4) (tC (.int 1))) (tCons (tC (.str "line")) tNil)) σ H fun cls d H' => E cls d H') tNext)
  (tSeq (tAsg (tOp (rIxL K) (tVar 5) (tC (.int 0))) (gName 3))
  (tDrop (tBM K "list" rAppend (tVar 2) (tCons (tTup (tCons (tVar 3) (tCons (tVar 6) tNil))) tNil)))))))))
  (tSeq (tIfS (tOr (tTest (tOp rNe (tOp (rIxL K) (tVar 1) (tUn rNeg (tC (.int 1)))) (tC (.str "")))) (tTest (tOp (rIn K true) (tVar 3) (tTup (tCons (tC (.str "parted")) (tCons (tC (.str "object")) tNil)))))) (fun _ σ H => tMkO A.B (spBad A K) [] (tCons (tCB (rLenQ K) (tCons (tVar 1) tNil)) (tCons (tC (.str "end")) tNil)) σ H fun cls d H' => E cls d H') tNext)
  (tRet (tVar 2)))))))

abbrev N_read_image : List Str := ["text", "statics", "frames", "objects", "watched", "parted", "read", "at", "first", "content"]

/-- slots: 0 text, 1 statics, 2 frames, 3 objects, 4 watched, 5 parted, 6 read, 7 at, 8 first, 9 content -/
def t_read_image (A : Ad) (K : Frag) (w : World) (E : XK) : TS :=
  (tSeq (tPar3 1 2 3 (tCons (tLst tNil) (tCons (tLst tNil) (tCons (tLst tNil) tNil))))
  (tSeq (tAsg (tTup (tCons (tTup tNil) (tCons (tTup tNil) tNil))) (gTup K 2 (gCons (gName 4) (gCons (gName 5) gNil))))
  (tSeq (tAsg (tCall (sp_read_lines A K) [] E (tCons (tVar 0) tNil)) (gName 6))
  (tSeq (tFor (iRng1 (tCons (tCB (rLenQ K) (tCons (tVar 6) tNil)) tNil)) (gName 7)
    (tSeq (tAsg (tOp (rIxL K) (tVar 6) (tVar 7)) (gTup K 2 (gCons (gName 8) (gCons (gName 9) gNil))))
  (tSeq (tIfS (tTest (tOp rEq (tVar 8) (tC (.str "static")))) (tDrop (tBM K "list" rAppend (tVar 1) (tCons (tOp (rIxT K) (tVar 9) (tC (.int 0))) tNil))) tNext)
  (tSeq (tIfS (tTest (tOp rEq (tVar 8) (tC (.str "frame")))) (tDrop (tBM K "list" rAppend (tVar 2) (tCons (tTup (tCons (tOp (rIxT K) (tVar 9) (tC (.int 0))) (tCons (tOp (rIxT K) (tVar 9) (tC (.int 1))) (tCons (tOp (rIxT K) (tOp (rIxL K) (tVar 6) (tOp rPlus (tVar 7) (tC (.int 1)))) (tC (.int 1))) (tCons (tOp (rIxT K) (tOp (rIxL K) (tVar 6) (tOp rPlus (tVar 7) (tC (.int 2)))) (tC (.int 1))) tNil))))) tNil))) tNext)
  (tSeq (tIfS (tTest (tOp rEq (tVar 8) (tC (.str "watched")))) (tAsg (tVar 9) (gName 4)) tNext)
  (tSeq (tIfS (tTest (tOp rEq (tVar 8) (tC (.str "parted")))) (tAsg (tVar 9) (gName 5)) tNext)
  (tIfS (tTest (tOp rEq (tVar 8) (tC (.str "object")))) (tDrop (tBM K "list" rAppend (tVar 3) (tCons (tVar 9) tNil))) tNext)))))))
  (tRet (tMake A.C (spPic A K) [] E0 (tCons (tVar 1) (tCons (tVar 2) (tCons (tVar 4) (tCons (tVar 5) (tCons (tVar 3) tNil)))))))))))

abbrev N_law : List Str := ["_law_script", "_law_data", "_law_turned", "_law_text_here", "_law_sizes", "_law_k"]

/-- slots: 0 _law_script, 1 _law_data, 2 _law_turned, 3 _law_text_here, 4 _law_sizes, 5 _law_k -/
def t_law (A : Ad) (K : Frag) (w : World) : TS :=
  (tSeq (tAsg (tCall (sp__law_free A K) [] E0 (tCons (tVar 0) (tCons (tC (.int 0)) tNil))) (gName 1))
  (tSeq (tAsg (tTup (tCons (tOp (rIxT K) (tVar 1) (tC (.int 0))) (tCons (tCB (rTupOf K) (tCons (tLRev K (tOp (rIxT K) (tVar 1) (tC (.int 1)))) tNil)) (tCons (tOp (rIxT K) (tVar 1) (tC (.int 3))) (tCons (tOp (rIxT K) (tVar 1) (tC (.int 2))) (tCons (tCB (rTupOf K) (tCons (tLRev K (tOp (rIxT K) (tVar 1) (tC (.int 4)))) tNil)) tNil)))))) (gName 2))
  (tSeq (tAsg (tCall (sp__law_text A K) [] E0 (tCons (tVar 1) tNil)) (gName 3))
  (tSeq (tIfS (tOr (tNot (tB (tCall (sp__law_back A K) [] E0 (tCons (tVar 3) (tCons (tVar 1) tNil))))) (tNot (tB (tCall (sp__law_back A K) [] E0 (tCons (tCall (sp__law_text A K) [] E0 (tCons (tVar 2) tNil)) (tCons (tVar 2) tNil)))))) (tRet (tC (.bl false))) tNext)
  (tSeq (tAsg (tLst (tCons (tC (.int 22)) (tCons (tC (.int 100003)) (tCons (tC (.int 100019)) (tCons (tC (.int 44)) (tCons (tC (.int 23)) tNil)))))) (gName 4))
  (tSeq (tFor (iRng1 (tCons (tC (.int 2)) tNil)) (gName 5)
    (tIfS (tNot (tB (tCall (sp__law_own_text A K) [] E0 (tCons (tCall (sp__law_edited A K) [] E0 (tCons (tVar 3) (tCons (tCall (sp__law_digits A K) [] E0 (tCons (tCall (sp__law_cell A K) [] E0 (tCons (tVar 0) (tCons (tOp rPlus (tC (.int 41)) (tVar 5)) tNil))) (tCons (tVar 4) tNil))) tNil))) tNil)))) (tRet (tC (.bl false))) tNext))
  (tRet (tCall (sp__law_back A K) [] E0 (tCons (tVar 3) (tCons (tVar 1) tNil))))))))))

end Qb

/-! Krev -/
set_option Elab.async false
set_option linter.all false
set_option maxRecDepth 100000
set_option maxHeartbeats 2000000
/-! list(reversed(a tuple)) -/
namespace Qb
open PySem PySem.Spec PyProof.Rows L2 RT
theorem nolen_rt : typeLookup (.type "reversed") "__len__" = pure none := by rw [typeLookup_type, builtinLookup_eq_fast]; kernel_rfl
theorem hint_rt : typeLookup (.type "reversed") "__length_hint__" = pure (some (.builtin "reversed.__length_hint__")) := by rw [typeLookup_type, builtinLookup_eq_fast]; kernel_rfl
theorem slot_rt_hint : Slot "reversed" "__length_hint__" "reversed.__length_hint__" :=
  .of (owner := "reversed") (n := "__length_hint__") (by rw [typeLookup_type, builtinLookup_eq_fast]; kernel_rfl) (by decide +kernel) (by decide +kernel) (by decide +kernel)
    (by first | exact .inl (by decide +kernel) | exact .inr (by decide +kernel)) (by rw [isSubtype_type]; kernel_rfl)
theorem entry_rt_hint : entryFor table "reversed.__length_hint__" = some Builtin.«reversed.__length_hint__» := entryFor_of_tree (by kernel_rfl)
theorem args_rt_hint (a : Value) : argsOk "reversed.__length_hint__" ⟨[a], []⟩ := by
  unfold argsOk; rw [signature?_of (id := "reversed.__length_hint__") (n := ['_', '_', 't', 'n', 'i', 'h', '_', 'h', 't', 'g', 'n', 'e', 'l', '_', '_']) (o := ['d', 'e', 's', 'r', 'e', 'v', 'e', 'r']) (by kernel_rfl) owner_rt]; kernel_rfl
section
variable {pr : Program} {wd : World} {Ar : Around} {Ep : Value → Shared → Prop} {sh : Shared}
theorem call_rt_hint {ia ta : Addr} {itm : Array Value} {Qp : Value → Shared → Prop} (hIa : IsRt sh.heap ia ta ((itm.size : Int) - 1)) (hTa : IsTup sh.heap ta itm) (hSz : itm.size ≤ sizeLine)
    (h : ∀ tk u, sh.toks ≤ tk → Qp (.int itm.size u) { sh with toks := tk }) : wpAny (model pr wd) Ar (call (.builtin "reversed.__length_hint__") [.ref ia]) Qp Ep sh := by
  obtain ⟨o, ho, hc, hd⟩ := id hIa
  refine wpAny_call_entry slot_rt_hint hIa.typeIs entry_rt_hint ?_ (args_rt_hint _)
  unfold Builtin.«reversed.__length_hint__»
  refine wpAny_bind (wpAny_of_eq (a := Value.ref ia) rfl ?_)
  try dsimp only
  refine wpAny_bind (wpAny_field ho hd (x := .ref ta) rfl ?_)
  try dsimp only
  rw [if_neg (by simp)]
  try dsimp only
  have hn2 : itm.size ≤ 16777216 := by rw [← sizeLine_eq]; exact hSz
  refine wpAny_bind (len_tuple hTa (by omega) ?_)
  refine wpAny_bind (wpAny_of_eq (a := some ((itm.size : Nat) : Int)) rfl ?_)
  try dsimp only
  refine wpAny_bind (wpAny_field (s := { sh with toks := sh.toks + 1 + 1 }) ho hd (x := rawInt ((itm.size : Int) - 1)) rfl ?_)
  show wpAny _ _ (if ((itm.size : Nat) : Int) < ((itm.size : Int) - 1) + 1 then _ else _) _ _ _
  rw [if_neg (by omega)]
  have e1 : ((itm.size : Int) - 1) + 1 = (itm.size : Int) := by omega
  rw [e1]
  unfold retInt
  refine wpAny_bind (wpAny_mkInt ?_)
  exact wpAny_pure ⟨_, rfl, h _ _ (by show sh.toks ≤ sh.toks + 1 + 1 + 1; omega)⟩
end
theorem walks_rt {pr : Program} {wd : World} {Ar : Around} (hh : Ar.handled = none) (I ta : Addr) (hDf : ta ≠ I) (itm : Array Value) (hsz : itm.size ≤ sizeLine) :
    Walks pr wd Ar I [I, ta] [I] itm.size (fun i v => itm[itm.size - 1 - i]? = some v) (fun i h => i ≤ itm.size ∧ IsRt h I ta ((itm.size : Int) - 1 - (i : Int)) ∧ IsTup h ta itm) where
  sub := fun b hb => by simp at hb; simp [hb]
  frame := fun _ _ _ x hk => ⟨x.1, x.2.1.at fun o e => hk I (by simp) o e, let ⟨o, ho, r⟩ := x.2.2; ⟨o, hk ta (by simp) o ho, r⟩⟩
  item := fun i sh Qp Ep hi x hQ => by
    have e : (itm.size : Int) - 1 - (i : Int) = ((itm.size - 1 - i : Nat) : Int) := by omega
    have hIa := x.2.1
    rw [e] at hIa
    have hx : itm[itm.size - 1 - i]? = some (itm[itm.size - 1 - i]'(by omega)) := Array.getElem?_eq_getElem (by omega)
    refine next_rt_item hIa x.2.2 hx hsz fun h' hIa' hs' => ?_
    have e2 : ((itm.size - 1 - i : Nat) : Int) - 1 = (itm.size : Int) - 1 - ((i + 1 : Nat) : Int) := by omega
    rw [e2] at hIa'
    exact hQ _ h' _ hx ⟨hi, hIa', let ⟨o, ho, r⟩ := x.2.2; ⟨o, (hs'.2 ta hDf).trans ho, r⟩⟩ fun b o hb eo => hs'.extBut b o (fun h => hb (by simp [h])) eo
  done := fun sh Qp Ep x hQ => by
    have e : (itm.size : Int) - 1 - (itm.size : Int) = -1 := by omega
    have hIa := x.2.1
    rw [e] at hIa
    exact next_rt_end hh hIa fun h' he' => hQ h' sh.toks fun b o hb eo => he' b o (fun h => hb (by simp [h])) eo
  self := fun _ _ _ _ x hQ => iter_rt x.2.1 hQ
section
variable {pr : Program} {wd : World} {Ar : Around} {sh : Shared} {Rp : Result → Shared → Prop}
theorem extend_rt {ia ta : Addr} {itm : Array Value} (hh : Ar.handled = none) (hDf : ta ≠ ia) (hSz : itm.size ≤ sizeLine) (La : Addr) (res : Value) (c0 : Nat) (hIa : IsRt sh.heap ia ta ((itm.size : Int) - 1)) (hTa : IsTup sh.heap ta itm) (hSi : La ≠ ia) (hSl : La ≠ ta)
    (hLa : sh.heap.get? La = some { cls := .type "list", data := .seq #[] c0 })
    (hRp : ∀ sh' acc' c', Moved [La, ia] (fun a b => b = a) sh sh' → sh'.heap.get? La = some { cls := .type "list", dict := none, data := .seq acc' c', slots := #[] } → ItemsOf (fun i v => itm[itm.size - 1 - i]? = some v) acc' itm.size → Rp (.ok (.ret res)) sh') :
    wpAny (model pr wd) Ar.in1 (Builtin.List.listExtendWith (.ref La) (.ref ia) res)
      (fun fin sh' => match fin with | .done f => Rp (.ok f) sh' | .again c' => c'.quiet = true ∧ codeAny (model pr wd) Ar c' Rp sh') (fun e sh' => Rp (.error e) sh') sh := by
  have W := (walks_rt (pr := pr) (wd := wd) (Ar := Ar.in1) hh ia ta hDf itm hSz).toS
  have hSf : La ∉ [ia, ta] := by simp only [List.mem_cons, List.not_mem_nil, or_false, not_or]; exact ⟨hSi, hSl⟩
  have hT : sh.TypeIs (.ref ia) "reversed" := hIa.typeIs
  have h1 : Builtin.List.listSameRef (.ref La) (.ref ia) = false := by simp [Builtin.List.listSameRef, hSi]
  unfold Builtin.List.listExtendWith
  refine wpAny_bind (wpAny_typeOf hT ?_)
  rw [if_neg (by rw [h1]; decide)]
  refine wpAny_bind (iter_rt hIa ?_)
  refine wpAny_bind (wpAny_holding ?_)
  unfold Builtin.List.listLengthHint
  refine wpAny_bind (wpAny_specialOf hT nolen_rt ?_)
  show wpAny _ Ar.in1 (specialOf (Value.ref ia) (Str.ofString "__length_hint__") >>= _) _ _ _
  refine wpAny_bind (wpAny_specialOf hT hint_rt ?_)
  have hsp : splitId "reversed.__length_hint__" = some ("reversed", "__length_hint__") := by decide +kernel
  generalize hid : ("reversed.__length_hint__" : String) = id0
  wp_delta
  rw [show splitId id0 = some ("reversed", "__length_hint__") from by subst hid; exact hsp]
  refine wpAny_bind (wpAny_isInstance (b := true) hT (by rw [isSubtype_type]; kernel_rfl) ?_)
  rw [if_neg (by decide)]
  try dsimp only
  rw [if_neg (by subst hid; decide +kernel)]
  subst hid
  refine wpAny_bind (wpAny_rule ?_)
  refine wpAny_bind (wpAny_of_eq (slot_rt_hint.bind (.ref ia)) ?_)
  try dsimp only
  refine wpAny_bind (wpAny_attempt ?_)
  refine call_rt_hint hIa hTa hSz fun tk u htk => ?_
  show wpAny _ _ (asInt? (Value.int ((itm.size : Nat) : Int) u) >>= _) _ _ _
  have hai : asInt? (Value.int ((itm.size : Nat) : Int) u) = pure (some ((itm.size : Nat) : Int)) := by first | rfl | kernel_rfl
  rw [hai]
  refine wpAny_bind ?_
  refine wpAny_pure ?_
  try dsimp only
  have hn2 : itm.size ≤ 16777216 := by rw [← sizeLine_eq]; exact hSz
  rw [if_neg (by
    unfold Builtin.List.listFitsIndex
    simp
    omega)]
  try dsimp only
  rw [if_neg (by omega)]
  try dsimp only
  rw [if_neg (by
    unfold Builtin.List.listTooLong
    simp
    omega)]
  refine wpAny_pure ?_
  have st0 : ∀ h' : Heap, (∀ b o, b ≠ La → sh.heap.get? b = some o → h'.get? b = some o) → 0 ≤ itm.size ∧ IsRt h' ia ta ((itm.size : Int) - 1 - ((0 : Nat) : Int)) ∧ IsTup h' ta itm := fun h' hk => by
    have e0 : (itm.size : Int) - 1 - ((0 : Nat) : Int) = (itm.size : Int) - 1 := by omega
    rw [e0]
    exact ⟨Nat.zero_le _, hIa.at fun o e => hk ia o (Ne.symm hSi) e, let ⟨o, ho, r⟩ := hTa; ⟨o, hk ta o (Ne.symm hSl) ho, r⟩⟩
  by_cases hroom : (((itm.size : Nat) : Int) != 0) = true
  · rw [if_pos (by rw [hroom]; rfl)]
    refine wpAny_bind (wpAny_rule ?_)
    refine wpAny_bind ?_
    show wpAny _ Ar.in1 (updateSeq La (·.push .none) >>= fun _ => updateSeq La (·.pop)) _ _ _
    refine wpAny_bind (wpAny_updateSeq (s := { sh with toks := tk }) hLa rfl ?_)
    have hL2 := Heap.get?_update_self (Obj.mapSeq (·.push Value.none)) hLa rfl
    refine wpAny_updateSeq (hz := by seq_fits) hL2 rfl ?_
    have hL3 := Heap.get?_update_self (Obj.mapSeq (·.pop)) hL2 rfl
    have hOt : ∀ b o, b ≠ La → sh.heap.get? b = some o → ((sh.heap.update La (Obj.mapSeq (·.push Value.none))).update La (Obj.mapSeq (·.pop))).get? b = some o :=
      fun ad ob hb2 eo => (Heap.get?_update_other _ _ (Ne.symm hb2)).trans ((Heap.get?_update_other _ _ (Ne.symm hb2)).trans eo)
    refine wpAny_pure ⟨plainId_quiet F.plain_extend_loop _, codeAny_extend_loopS W hSz _ hSf _ itm.size 0 _ _ _ rfl (Nat.zero_le _) (st0 _ hOt) hL3 (ItemsOf.nil _) fun sh' acc' c' hm hLa' hacc => ?_⟩
    refine hRp sh' acc' c' ⟨fun b o hb e => hm.heap b o hb (hOt b o (fun z => hb (z ▸ List.mem_cons_self)) e), hm.gens, hm.drawn, hm.os, Nat.le_trans htk hm.toks⟩ hLa' hacc
  · have hr : (((itm.size : Nat) : Int) != 0) = false := by simpa using hroom
    rw [if_neg (by rw [hr]; decide +kernel)]
    refine wpAny_pure ⟨plainId_quiet F.plain_extend_loop _, codeAny_extend_loopS W hSz _ hSf _ itm.size 0 _ _ _ rfl (Nat.zero_le _) (st0 _ fun b o _ e => e) hLa (ItemsOf.nil _) fun sh' acc' c' hm hLa' hacc => ?_⟩
    exact hRp sh' acc' c' ⟨hm.heap, hm.gens, hm.drawn, hm.os, Nat.le_trans htk hm.toks⟩ hLa' hacc
theorem list_init_rt {ia ta : Addr} {itm : Array Value} (hh : Ar.handled = none) (hDf : ta ≠ ia) (hSz : itm.size ≤ sizeLine) (La : Addr) (hIa : IsRt sh.heap ia ta ((itm.size : Int) - 1)) (hTa : IsTup sh.heap ta itm) (hSi : La ≠ ia) (hSl : La ≠ ta)
    (hLa : sh.heap.get? La = some { cls := .type "list", data := .seq #[] })
    (hRp : ∀ sh' acc' c', Moved [La, ia] (fun a b => b = a) sh sh' → sh'.heap.get? La = some { cls := .type "list", dict := none, data := .seq acc' c', slots := #[] } → ItemsOf (fun i v => itm[itm.size - 1 - i]? = some v) acc' itm.size → Rp (.ok (.ret .none)) sh') :
    wpAny (model pr wd) Ar.in1 (Builtin.«list.__init__» ⟨[.ref La, .ref ia], []⟩)
      (fun fin sh' => match fin with | .done f => Rp (.ok f) sh' | .again c' => c'.quiet = true ∧ codeAny (model pr wd) Ar c' Rp sh') (fun e sh' => Rp (.error e) sh') sh := by
  show wpAny _ Ar.in1 (do let old ← Builtin.List.listItems (.ref La); Builtin.List.listUpdate (.ref La) (fun _ => #[]); letGo old.toList.reverse; Builtin.List.listExtendWith (.ref La) (.ref ia) .none) _ _ sh
  refine wpAny_bind ?_
  unfold Builtin.List.listItems
  refine wpAny_bind (wpAny_seqItems hLa rfl (wpAny_pure ?_))
  show wpAny _ Ar.in1 (updateSeq La (fun _ => #[]) >>= fun _ => letGo (#[] : Array Value).toList.reverse >>= fun _ => Builtin.List.listExtendWith (.ref La) (.ref ia) .none) _ _ sh
  refine wpAny_bind (wpAny_updateSeq hLa rfl ?_)
  have hL2 := Heap.get?_update_self (Obj.mapSeq (fun _ => (#[] : Array Value))) hLa rfl
  have hOt : ∀ b o, b ≠ La → sh.heap.get? b = some o → (sh.heap.update La (Obj.mapSeq (fun _ => (#[] : Array Value)))).get? b = some o :=
    fun ad ob hb2 eo => (Heap.get?_update_other _ _ (Ne.symm hb2)).trans eo
  refine wpAny_bind (wpAny_letGo ?_)
  refine extend_rt hh hDf hSz La .none _ (hIa.at fun o e => hOt ia o (Ne.symm hSi) e) (let ⟨o, ho, r⟩ := hTa; ⟨o, hOt ta o (Ne.symm hSl) ho, r⟩) hSi hSl hL2 fun sh' acc' c' hm hLa' hacc => ?_
  exact hRp sh' acc' c' ⟨fun b o hb e => hm.heap b o hb (hOt b o (fun z => hb (z ▸ List.mem_cons_self)) e), hm.gens, hm.drawn, hm.os, hm.toks⟩ hLa' hacc
theorem call_list_rt {ia ta : Addr} {itm : Array Value} {Ep : Value → Shared → Prop} {Qp : Value → Shared → Prop} (hh : Ar.handled = none) (hDf : ta ≠ ia) (hSz : itm.size ≤ sizeLine) (hIa : IsRt sh.heap ia ta ((itm.size : Int) - 1)) (hTa : IsTup sh.heap ta itm)
    (hQ : ∀ sh' acc' c', Moved [sh.heap.objs.size, ia] (fun a b => b = a) { sh with heap := sh.heap.push { cls := .type "list", data := .seq #[] } } sh' →
      sh'.heap.get? sh.heap.objs.size = some { cls := .type "list", dict := none, data := .seq acc' c', slots := #[] } → ItemsOf (fun i v => itm[itm.size - 1 - i]? = some v) acc' itm.size → Qp (.ref sh.heap.objs.size) sh') :
    wpAny (model pr wd) Ar (call (.type "list") [.ref ia]) Qp Ep sh := by
  obtain ⟨oi, hoi, _⟩ := id hIa
  obtain ⟨ol, hol, _⟩ := id hTa
  have hSi : sh.heap.objs.size ≠ ia := Nat.ne_of_gt (Heap.lt_size hoi)
  have hSl : sh.heap.objs.size ≠ ta := Nat.ne_of_gt (Heap.lt_size hol)
  refine callType_codes (Q₁ := fun obj s₁ => obj = .ref sh.heap.objs.size ∧ s₁ = { sh with heap := sh.heap.push { cls := .type "list", data := .seq #[] } }) F.called_list (F.typeCall_list_1 _) F.entry_list_init
    (code_list_new _ ⟨rfl, rfl⟩) fun ob1 sh1 hob => ?_
  obtain ⟨rfl, rfl⟩ := hob
  have hLa : (sh.heap.push { cls := .type "list", data := .seq #[] }).get? sh.heap.objs.size = some { cls := .type "list", data := .seq #[] } := Heap.get?_push_size _ rfl
  refine ⟨⟨_, hLa, rfl⟩, F.args_list_init_2 _ _, list_init_rt (Ar := Ar.in1) hh hDf hSz _ (hIa.at fun o e => Heap.get?_push_of_some _ e) (let ⟨o, ho, r⟩ := hTa; ⟨o, Heap.get?_push_of_some _ ho, r⟩) hSi hSl hLa fun sh' acc' c' hm hLa' hacc => ?_⟩
  exact ⟨rfl, hQ sh' acc' c' hm hLa' hacc⟩
end
theorem pe_lrev {X : Cx} {e : Expr} {te : TE} {p p2 pos pos2 : Pos} (hc : X.calm = true) (hg : Gl X "list") (hm : X.mg "list" = none) (hg2 : Gl X "reversed") (hm2 : X.mg "reversed" = none) (he : PE X e te)
    (hs : starEach [e] X.env = (false, eval e X.env) :: starEach [] X.env := by rfl)
    (hst2 : starEach [.Call (.Name "reversed" p2) [e] [] pos2] X.env = (false, eval (.Call (.Name "reversed" p2) [e] [] pos2) X.env) :: starEach [] X.env := by rfl) :
    PE X (.Call (.Name "list" p) [.Call (.Name "reversed" p2) [e] [] pos2] [] pos) (tLRev X.K te) := by
  refine ⟨fun pins s σ H Q I0 hyp => ?_⟩
  refine Call_ (ld_blt I0 hg hm boot_list (PyProof.Rows.callWith_type1 (args_cons (Call_ (ld_blt I0 hg2 hm2 PyProof.Rows.boot_reversed (PyProof.Rows.callWith_type1 (args_cons (thn (he.run pins s σ H _ I0 hyp) fun uv sa ⟨v, Ha, J1, ra, qa⟩ => args_nil ?_) hs) hs rfl))) hst2) hst2 rfl))
  obtain ⟨a, xv, ev, hSq, q⟩ := qa
  subst ev
  obtain rfl : uv = Value.ref a := ra
  obtain ⟨itv, rvl, p', hz⟩ := J1.tuple hSq
  have hSz := line63
  refine call_reversed_tup p' (fun A E Q k => len_tuple p' (by simp only [List.size_toArray]; have := rvl.length; omega) k) (args_nil ?_)
  have kp0 : ∀ b o, sa.heap.get? b = some o → (sa.heap.push (rtObj a ((itv.toArray.size : Int) - 1))).get? b = some o := fun b o e => Heap.get?_push_of_some _ e
  have J2 : Inv X pins σ Ha { sa with heap := sa.heap.push (rtObj a ((itv.toArray.size : Int) - 1)), toks := sa.toks + 1 + 1 } := J1.kept (t' := sa.toks + 1 + 1) kp0
  obtain ⟨f0, f1, f2, f3, f4, f5⟩ := J1.fpOk (H' := Ha) (b := sa.heap.objs.size) (Nat.le_refl _) (J1.hok.fresh (Nat.le_refl _))
  obtain ⟨ol, hol, hol2⟩ := id p'
  have hDf : a ≠ sa.heap.objs.size := Nat.ne_of_lt (Heap.lt_size hol)
  have hSz : itv.toArray.size ≤ sizeLine := by rw [List.size_toArray, ← rvl.length]; exact hz
  refine call_list_rt (sh := { sa with heap := sa.heap.push (rtObj a ((itv.toArray.size : Int) - 1)), toks := sa.toks + 1 + 1 }) (J1.ok.hd hc) hDf hSz ⟨_, Heap.get?_push_size _ rfl, rfl, rfl⟩ ⟨ol, kp0 _ _ hol, hol2⟩ fun s' acc' c' hmv hS' hacc => ?_
  have hsz : (sa.heap.push (rtObj a ((itv.toArray.size : Int) - 1))).objs.size = sa.heap.objs.size + 1 := Heap.size_push ..
  have keep : ∀ b o, sa.heap.get? b = some o → s'.heap.get? b = some o := fun b o e => by
    have hb := Heap.lt_size e
    refine hmv.heap b o (fun hm => ?_) (Heap.get?_push_of_some _ (kp0 b o e))
    rcases List.mem_cons.mp hm with z | z
    · have z' : b = sa.heap.objs.size + 1 := z.trans hsz
      rw [z'] at hb
      exact absurd hb (Nat.not_lt_of_le (Nat.le_succ _))
    · have z' : b = sa.heap.objs.size := List.mem_singleton.mp z
      rw [z'] at hb
      exact absurd hb (Nat.lt_irrefl _)
  have es : s' = { sa with heap := s'.heap, toks := s'.toks } := by
    have es0 := Moved.eq_with hmv
    exact es0
  refine ⟨.ref _, upd Ha (sa.heap.push (rtObj a ((itv.toArray.size : Int) - 1))).objs.size (.lst xv.reverse), ?_, rfl, q _ (J1.hok.fresh (by rw [hsz]; exact Nat.le_succ _))⟩
  rw [es]
  refine J1.laid (t' := s'.toks) keep (by rw [hsz]; exact Nat.le_succ _) ?_
  show _ ∧ _
  refine ⟨by rw [List.length_reverse]; exact hz, acc'.toList, c', vals_rev rvl hacc, ?_⟩
  rw [Array.toArray_toList]
  exact hS'
end Qb

/-! Kok -/
set_option Elab.async false
set_option linter.all false
set_option maxRecDepth 100000
set_option maxHeartbeats 2000000
/-! The derivations: each def's body has its reading (printed by gen.py). -/
namespace Qb
open PySem PySem.Spec PyProof.Rows L2

theorem sc_BadImage_init : FnScope N_BadImage_init ["self", "line", "why"] (defScope (inClass (top 3) 0)) := ⟨rfl, rfl, rfl, by decide +kernel, rfl, by decide +kernel, by decide +kernel⟩
theorem ok_BadImage_init {P : Program} {w : World} {K : Frag} {mg : Str → Option Value} {base : Heap} {A : Ad} {f : Addr} {fd : FuncData} (F : Fun K "__init__" "BadImage.__init__" (inClass (top 3) 0) f fd) (T : Txt K mg w A)
    (len : ∀ vs H Q E, spBad A K vs H Q E → vs.length = 3)
    (pure : ∀ vs H Q E, spBad A K vs H Q E → t_BadImage_init A K w { nx := fun _ H' => Q .non H', rt := Q } (start N_BadImage_init vs) H) : FnOk P w K mg base (CX0) 1 f fd ["self", "line", "why"] (spBad A K) := by
  refine F.ok sc_BadImage_init (fun vs H Q E h => len vs H Q E h) (fun cdv Ar outer s H vs Q E hr h => ⟨t_BadImage_init A K w, ?_, pure vs H Q E h⟩)
  exact (pss_cons (ps_ost (pv 0) (pv 1))
      (pss_one (ps_ost (pv 0) (pv 2))))

theorem sc_wrap : FnScope N_wrap ["n"] (defScope (top 8)) := ⟨rfl, rfl, rfl, by decide +kernel, rfl, by decide +kernel, by decide +kernel⟩
theorem ok_wrap {P : Program} {w : World} {K : Frag} {mg : Str → Option Value} {base : Heap} {A : Ad} {f : Addr} {fd : FuncData} (F : Fun K "wrap" "wrap" (top 8) f fd) (T : Txt K mg w A)
    (len : ∀ vs H Q E, sp_wrap A K vs H Q E → vs.length = 1)
    (pure : ∀ vs H Q E, sp_wrap A K vs H Q E → t_wrap A K w { nx := fun _ H' => Q .non H', rt := Q } (start N_wrap vs) H) : FnOk P w K mg base (CX0) 1 f fd ["n"] (sp_wrap A K) := by
  refine F.ok sc_wrap (fun vs H Q E h => len vs H Q E h) (fun cdv Ar outer s H vs Q E hr h => ⟨t_wrap A K w, ?_, pure vs H Q E h⟩)
  exact (pss_one (ps_ret (pe_op op_add (pe_op op_mod (pe_op op_sub (pv 0) (T.g_MIN_NUMBER)) pe_int) (T.g_MIN_NUMBER))))

theorem sc_reference_word : FnScope N_reference_word ["address"] (defScope (top 10)) := ⟨rfl, rfl, rfl, by decide +kernel, rfl, by decide +kernel, by decide +kernel⟩
theorem ok_reference_word {P : Program} {w : World} {K : Frag} {mg : Str → Option Value} {base : Heap} {A : Ad} {f : Addr} {fd : FuncData} (F : Fun K "reference_word" "reference_word" (top 10) f fd) (T : Txt K mg w A)
    (len : ∀ vs H Q E, sp_reference_word A K vs H Q E → vs.length = 1)
    (pure : ∀ vs H Q E, sp_reference_word A K vs H Q E → t_reference_word A K w { nx := fun _ H' => Q .non H', rt := Q } (start N_reference_word vs) H) : FnOk P w K mg base (CX0) 1 f fd ["address"] (sp_reference_word A K) := by
  refine F.ok sc_reference_word (fun vs H Q E h => len vs H Q E h) (fun cdv Ar outer s H vs Q E hr h => ⟨t_reference_word A K w, ?_, pure vs H Q E h⟩)
  exact (pss_one (ps_ret (pe_op op_mul pe_int (pv 0))))

theorem sc_is_number : FnScope N_is_number ["word"] (defScope (top 11)) := ⟨rfl, rfl, rfl, by decide +kernel, rfl, by decide +kernel, by decide +kernel⟩
theorem ok_is_number {P : Program} {w : World} {K : Frag} {mg : Str → Option Value} {base : Heap} {A : Ad} {f : Addr} {fd : FuncData} (F : Fun K "is_number" "is_number" (top 11) f fd) (T : Txt K mg w A)
    (len : ∀ vs H Q E, sp_is_number A K vs H Q E → vs.length = 1)
    (pure : ∀ vs H Q E, sp_is_number A K vs H Q E → t_is_number A K w { nx := fun _ H' => Q .non H', rt := Q } (start N_is_number vs) H) : FnOk P w K mg base (CX0) 1 f fd ["word"] (sp_is_number A K) := by
  refine F.ok sc_is_number (fun vs H Q E h => len vs H Q E h) (fun cdv Ar outer s H vs Q E hr h => ⟨t_is_number A K w, ?_, pure vs H Q E h⟩)
  exact (pss_one (ps_ret (pe_cmpR op_eq (pe_op op_mod (pv 0) pe_int) pe_int (nomark _))))

theorem sc_number_of : FnScope N_number_of ["word"] (defScope (top 12)) := ⟨rfl, rfl, rfl, by decide +kernel, rfl, by decide +kernel, by decide +kernel⟩
theorem ok_number_of {P : Program} {w : World} {K : Frag} {mg : Str → Option Value} {base : Heap} {A : Ad} {f : Addr} {fd : FuncData} (F : Fun K "number_of" "number_of" (top 12) f fd) (T : Txt K mg w A)
    (len : ∀ vs H Q E, sp_number_of A K vs H Q E → vs.length = 1)
    (pure : ∀ vs H Q E, sp_number_of A K vs H Q E → t_number_of A K w { nx := fun _ H' => Q .non H', rt := Q } (start N_number_of vs) H) : FnOk P w K mg base (CX0) 1 f fd ["word"] (sp_number_of A K) := by
  refine F.ok sc_number_of (fun vs H Q E h => len vs H Q E h) (fun cdv Ar outer s H vs Q E hr h => ⟨t_number_of A K w, ?_, pure vs H Q E h⟩)
  exact (pss_one (ps_ret (pe_op op_fdiv (pe_op op_sub (pv 0) pe_int) pe_int)))

theorem sc_address_of : FnScope N_address_of ["word"] (defScope (top 13)) := ⟨rfl, rfl, rfl, by decide +kernel, rfl, by decide +kernel, by decide +kernel⟩
theorem ok_address_of {P : Program} {w : World} {K : Frag} {mg : Str → Option Value} {base : Heap} {A : Ad} {f : Addr} {fd : FuncData} (F : Fun K "address_of" "address_of" (top 13) f fd) (T : Txt K mg w A)
    (len : ∀ vs H Q E, sp_address_of A K vs H Q E → vs.length = 1)
    (pure : ∀ vs H Q E, sp_address_of A K vs H Q E → t_address_of A K w { nx := fun _ H' => Q .non H', rt := Q } (start N_address_of vs) H) : FnOk P w K mg base (CX0) 1 f fd ["word"] (sp_address_of A K) := by
  refine F.ok sc_address_of (fun vs H Q E h => len vs H Q E h) (fun cdv Ar outer s H vs Q E hr h => ⟨t_address_of A K w, ?_, pure vs H Q E h⟩)
  exact (pss_one (ps_ret (pe_op op_fdiv (pv 0) pe_int)))

theorem sc_is_name : FnScope N_is_name ["text"] (defScope (top 18)) := ⟨rfl, rfl, rfl, by decide +kernel, rfl, by decide +kernel, by decide +kernel⟩
theorem ok_is_name {P : Program} {w : World} {K : Frag} {mg : Str → Option Value} {base : Heap} {A : Ad} {f : Addr} {fd : FuncData} (F : Fun K "is_name" "is_name" (top 18) f fd) (T : Txt K mg w A)
    (len : ∀ vs H Q E, sp_is_name A K vs H Q E → vs.length = 1)
    (pure : ∀ vs H Q E, sp_is_name A K vs H Q E → t_is_name A K w { nx := fun _ H' => Q .non H', rt := Q } (start N_is_name vs) H) : FnOk P w K mg base (CX0) 1 f fd ["text"] (sp_is_name A K) := by
  refine F.ok sc_is_name (fun vs H Q E h => len vs H Q E h) (fun cdv Ar outer s H vs Q E hr h => ⟨t_is_name A K w, ?_, pure vs H Q E h⟩)
  exact (pss_cons (ps_if (PW.pt (pw_or (pt_cmpR op_lt (pe_callB call_len_str (by rfl) T.f_len PySem.boot_len (pa_cons (pv 0) pa_nil)) pe_int (nomark _)) (pw_or (pt_cmpR op_gt (pe_callB call_len_str (by rfl) T.f_len PySem.boot_len (pa_cons (pv 0) pa_nil)) pe_int (nomark _)) (pw_or1 (pt_cmpR op_in_seq (pv 0) (T.g_RESERVED) (by rfl)))))) (pss_one (ps_ret pe_bl)) pss_nil)
      (pss_cons (ps_for PassesOwn.never rfl (pi_str (pv 0)) (pg_name (i := 1) sc_is_name.nd rfl (Or.inl rfl))
        (pss_one (ps_if (PW.pt (pw_and (pt_cmpR op_notIn_sign (pv 1) (T.g_LETTERS) (by rfl)) (pw_and1 (pt_cmpR op_notIn_sign (pv 1) (T.g_DIGITS) (by rfl))))) (pss_one (ps_ret pe_bl)) pss_nil)))
      (pss_one (ps_ret (pe_cmpR op_in_sign (pe_ix ix_str (pv 0) pe_int (fun _ _ => rfl)) (T.g_LETTERS) (by rfl))))))

theorem sc_Picture_init : FnScope N_Picture_init ["self", "statics", "frames", "watched", "parted", "objects"] (defScope (inClass (top 20) 0)) := ⟨rfl, rfl, rfl, by decide +kernel, rfl, by decide +kernel, by decide +kernel⟩
theorem ok_Picture_init {P : Program} {w : World} {K : Frag} {mg : Str → Option Value} {base : Heap} {A : Ad} {f : Addr} {fd : FuncData} (F : Fun K "__init__" "Picture.__init__" (inClass (top 20) 0) f fd) (T : Txt K mg w A)
    (len : ∀ vs H Q E, spPic A K vs H Q E → vs.length = 6)
    (pure : ∀ vs H Q E, spPic A K vs H Q E → t_Picture_init A K w { nx := fun _ H' => Q .non H', rt := Q } (start N_Picture_init vs) H) : FnOk P w K mg base (CX0) 1 f fd ["self", "statics", "frames", "watched", "parted", "objects"] (spPic A K) := by
  refine F.ok sc_Picture_init (fun vs H Q E h => len vs H Q E h) (fun cdv Ar outer s H vs Q E hr h => ⟨t_Picture_init A K w, ?_, pure vs H Q E h⟩)
  exact (pss_cons (ps_fld (pv 0) (pe_callTy call_tuple_of (by rfl) T.f_tuple (by decide +kernel) (pa_cons (pv 1) pa_nil)) rfl)
      (pss_cons (ps_fld (pv 0) (pe_callTy call_tuple_of (by rfl) T.f_tuple (by decide +kernel) (pa_cons (pe_lc (own := [("name", 6), ("place", 7), ("slots", 8), ("stack", 9)]) (g := (gTup K 4 (gCons (gName 6) (gCons (gName 7) (gCons (gName 8) (gCons (gName 9) gNil)))))) (tt := tYes) rfl sc_Picture_init.nd (pi_or (pi_list (pv 2)) (pi_tup (pv 2))) (blkOk_by (own := [("name", 6), ("place", 7), ("slots", 8), ("stack", 9)]) (N := N_Picture_init) (sc := defScope (inClass (top 20) 0)) (by decide +kernel)) (fun _ _ _ _ _ => (pg_tup rfl (pgs_cons (pg_name (i := 6) sc_Picture_init.nd rfl (Or.inl rfl)) (pgs_cons (pg_name (i := 7) sc_Picture_init.nd rfl (Or.inl rfl)) (pgs_cons (pg_name (i := 8) sc_Picture_init.nd rfl (Or.inl rfl)) (pgs_cons (pg_name (i := 9) sc_Picture_init.nd rfl (Or.inl rfl)) pgs_nil)))))) (fun _ _ _ _ _ => pts_nil) (fun _ _ _ _ _ => (pe_tup (pa_cons (pv 6) (pa_cons (pv 7) (pa_cons (pe_callTy call_tuple_of (by rfl) T.f_tuple (by decide +kernel) (pa_cons (pv 8) pa_nil)) (pa_cons (pe_callTy call_tuple_of (by rfl) T.f_tuple (by decide +kernel) (pa_cons (pv 9) pa_nil)) pa_nil))))))) pa_nil)) rfl)
      (pss_cons (ps_fld (pv 0) (pe_callTy call_tuple_of (by rfl) T.f_tuple (by decide +kernel) (pa_cons (pv 3) pa_nil)) rfl)
      (pss_cons (ps_fld (pv 0) (pe_callTy call_tuple_of (by rfl) T.f_tuple (by decide +kernel) (pa_cons (pv 4) pa_nil)) rfl)
      (pss_one (ps_fld (pv 0) (pe_callTy call_tuple_of (by rfl) T.f_tuple (by decide +kernel) (pa_cons (pe_lc (own := [("name", 6), ("payload", 10)]) (g := (gTup K 2 (gCons (gName 6) (gCons (gName 10) gNil)))) (tt := tYes) rfl sc_Picture_init.nd (pi_or (pi_list (pv 5)) (pi_tup (pv 5))) (blkOk_by (own := [("name", 6), ("payload", 10)]) (N := N_Picture_init) (sc := defScope (inClass (top 20) 0)) (by decide +kernel)) (fun _ _ _ _ _ => (pg_tup rfl (pgs_cons (pg_name (i := 6) sc_Picture_init.nd rfl (Or.inl rfl)) (pgs_cons (pg_name (i := 10) sc_Picture_init.nd rfl (Or.inl rfl)) pgs_nil)))) (fun _ _ _ _ _ => pts_nil) (fun _ _ _ _ _ => (pe_tup (pa_cons (pv 6) (pa_cons (pe_callTy call_tuple_of (by rfl) T.f_tuple (by decide +kernel) (pa_cons (pv 10) pa_nil)) pa_nil))))) pa_nil)) rfl))))))

theorem sc_Picture_eq : FnScope N_Picture_eq ["self", "other"] (defScope (inClass (top 20) 2)) := ⟨rfl, rfl, rfl, by decide +kernel, rfl, by decide +kernel, by decide +kernel⟩
theorem ok_Picture_eq {P : Program} {w : World} {K : Frag} {mg : Str → Option Value} {base : Heap} {A : Ad} {f : Addr} {fd : FuncData} (F : Fun K "__eq__" "Picture.__eq__" (inClass (top 20) 2) f fd) (T : Txt K mg w A)
    (len : ∀ vs H Q E, spPeq A K vs H Q E → vs.length = 2)
    (pure : ∀ vs H Q E, spPeq A K vs H Q E → t_Picture_eq A K w { nx := fun _ H' => Q .non H', rt := Q } (start N_Picture_eq vs) H) : FnOk P w K mg base (CX0) 1 f fd ["self", "other"] (spPeq A K) := by
  refine F.ok sc_Picture_eq (fun vs H Q E h => len vs H Q E h) (fun cdv Ar outer s H vs Q E hr h => ⟨t_Picture_eq A K w, ?_, pure vs H Q E h⟩)
  exact (pss_one (ps_ret (pe_and (pe_callB call_isi (by rfl) T.f_isinstance (by decide +kernel) (pa_cons (pv 1) (pa_cons (T.g_Picture) pa_nil))) (pe_and (pe_cmpR (op_eqD hr.units) (pe_fld (pv 0) rfl) (pe_fld (pv 1) rfl) (nomark _)) (pe_and (pe_cmpR (op_eqD hr.units) (pe_fld (pv 0) rfl) (pe_fld (pv 1) rfl) (nomark _)) (pe_and (pe_cmpR (op_eqD hr.units) (pe_fld (pv 0) rfl) (pe_fld (pv 1) rfl) (nomark _)) (pe_and (pe_cmpR (op_eqD hr.units) (pe_fld (pv 0) rfl) (pe_fld (pv 1) rfl) (nomark _)) (pe_one (pe_cmpR (op_eqD hr.units) (pe_fld (pv 0) rfl) (pe_fld (pv 1) rfl) (nomark _))))))))))

theorem sc_integer_of : FnScope N_integer_of ["word"] (defScope (top 23)) := ⟨rfl, rfl, rfl, by decide +kernel, rfl, by decide +kernel, by decide +kernel⟩
theorem ok_integer_of {P : Program} {w : World} {K : Frag} {mg : Str → Option Value} {base : Heap} {A : Ad} {f : Addr} {fd : FuncData} (F : Fun K "integer_of" "integer_of" (top 23) f fd) (T : Txt K mg w A)
    (len : ∀ vs H Q E, sp_integer_of A K vs H Q E → vs.length = 1)
    (pure : ∀ vs H Q E, sp_integer_of A K vs H Q E → t_integer_of A K w { nx := fun _ H' => Q .non H', rt := Q } (start N_integer_of vs) H) : FnOk P w K mg base (CX0) 1 f fd ["word"] (sp_integer_of A K) := by
  refine F.ok sc_integer_of (fun vs H Q E h => len vs H Q E h) (fun cdv Ar outer s H vs Q E hr h => ⟨t_integer_of A K w, ?_, pure vs H Q E h⟩)
  exact (pss_cons (ps_if (pt_cmpR op_eq (pv 0) pe_str (nomark _)) (pss_one (ps_ret pe_int)) pss_nil)
      (pss_cons (ps_set (i := 1) sc_integer_of.nd rfl (Or.inl rfl) (pv 0))
      (pss_cons (ps_if (pt_cmpR op_eq (pe_slice sl_str (pv 0) po_none (po_some pe_int)) pe_str (nomark _)) (pss_one (ps_set (i := 1) sc_integer_of.nd rfl (Or.inl rfl) (pe_slice sl_str (pv 0) (po_some pe_int) po_none))) pss_nil)
      (pss_cons (ps_if (PW.pt (pw_or (pt_cmpR op_lt (pe_callB call_len_str (by rfl) T.f_len PySem.boot_len (pa_cons (pv 1) pa_nil)) pe_int (nomark _)) (pw_or (pt_cmpR op_gt (pe_callB call_len_str (by rfl) T.f_len PySem.boot_len (pa_cons (pv 1) pa_nil)) pe_int (nomark _)) (pw_or1 (pt_cmpR op_eq (pe_ix ix_str (pv 1) pe_int (fun _ _ => rfl)) pe_str (nomark _)))))) (pss_one (ps_ret pe_non)) pss_nil)
      (pss_cons (ps_for PassesOwn.never rfl (pi_str (pv 1)) (pg_name (i := 2) sc_integer_of.nd rfl (Or.inl rfl))
        (pss_one (ps_if (pt_cmpR op_notIn_sign (pv 2) (T.g_FIGURES) (by rfl)) (pss_one (ps_ret pe_non)) pss_nil)))
      (pss_one (ps_ret (pe_callTy call_int_str (by rfl) T.f_int (by decide +kernel) (pa_cons (pv 0) pa_nil)))))))))

theorem sc__law_whole : FnScope N__law_whole ["_law_value"] (defScope (top 41)) := ⟨rfl, rfl, rfl, by decide +kernel, rfl, by decide +kernel, by decide +kernel⟩
theorem ok__law_whole {P : Program} {w : World} {K : Frag} {mg : Str → Option Value} {base : Heap} {A : Ad} {f : Addr} {fd : FuncData} (F : Fun K "_law_whole" "_law_whole" (top 41) f fd) (T : Txt K mg w A)
    (len : ∀ vs H Q E, sp__law_whole A K vs H Q E → vs.length = 1)
    (pure : ∀ vs H Q E, sp__law_whole A K vs H Q E → t__law_whole A K w { nx := fun _ H' => Q .non H', rt := Q } (start N__law_whole vs) H) : FnOk P w K mg base (CX0) 1 f fd ["_law_value"] (sp__law_whole A K) := by
  refine F.ok sc__law_whole (fun vs H Q E h => len vs H Q E h) (fun cdv Ar outer s H vs Q E hr h => ⟨t__law_whole A K w, ?_, pure vs H Q E h⟩)
  exact (pss_one (ps_ret (pe_and (pe_callB call_isi (by rfl) T.f_isinstance (by decide +kernel) (pa_cons (pv 0) (pa_cons (pe_bltn (v := .ty "int") (by rfl) T.f_int (by decide +kernel) rfl) pa_nil))) (pe_one (pe_not (pe_callB call_isi (by rfl) T.f_isinstance (by decide +kernel) (pa_cons (pv 0) (pa_cons (pe_bltn (v := .ty "bool") (by rfl) T.f_bool (by decide +kernel) rfl) pa_nil))))))))

theorem sc__law_cell : FnScope N__law_cell ["_law_script", "_law_k"] (defScope (top 42)) := ⟨rfl, rfl, rfl, by decide +kernel, rfl, by decide +kernel, by decide +kernel⟩
theorem ok__law_cell {P : Program} {w : World} {K : Frag} {mg : Str → Option Value} {base : Heap} {A : Ad} {f : Addr} {fd : FuncData} (F : Fun K "_law_cell" "_law_cell" (top 42) f fd) (T : Txt K mg w A)
    (len : ∀ vs H Q E, sp__law_cell A K vs H Q E → vs.length = 2)
    (pure : ∀ vs H Q E, sp__law_cell A K vs H Q E → t__law_cell A K w { nx := fun _ H' => Q .non H', rt := Q } (start N__law_cell vs) H) : FnOk P w K mg base (CX0) 1 f fd ["_law_script", "_law_k"] (sp__law_cell A K) := by
  refine F.ok sc__law_cell (fun vs H Q E h => len vs H Q E h) (fun cdv Ar outer s H vs Q E hr h => ⟨t__law_cell A K w, ?_, pure vs H Q E h⟩)
  exact (pss_cons (ps_if (pt_cmpR op_lt (pv 1) (pe_callB call_len_seq (by rfl) T.f_len PySem.boot_len (pa_cons (pv 0) pa_nil)) (nomark _)) (pss_one (ps_ret (pe_ix ix_list (pv 0) (pv 1) (fun _ _ => rfl)))) pss_nil)
      (pss_cons (ps_set (i := 2) sc__law_cell.nd rfl (Or.inl rfl) pe_int)
      (pss_cons (ps_for PassesOwn.never rfl (pi_list (pv 0)) (pg_name (i := 3) sc__law_cell.nd rfl (Or.inl rfl))
        (pss_one (ps_set (i := 2) sc__law_cell.nd rfl (Or.inl rfl) (pe_op op_mod (pe_callTy call_intI (by rfl) T.f_int (by decide +kernel) (pa_cons (pe_op op_add (pe_op op_mul (pv 2) pe_int) (pe_op op_mod (pe_callTy call_intI (by rfl) T.f_int (by decide +kernel) (pa_cons (pv 3) pa_nil)) pe_int)) pa_nil)) pe_int))))
      (pss_one (ps_ret (pe_op op_mod (pe_callTy call_intI (by rfl) T.f_int (by decide +kernel) (pa_cons (pe_op op_mul (pe_op op_mul (pe_op op_add (pv 2) pe_int) (pe_op op_add (pv 1) pe_int)) pe_int) pa_nil)) pe_int))))))

theorem sc__law_digits : FnScope N__law_digits ["_law_cell_here", "_law_sizes"] (defScope (top 43)) := ⟨rfl, rfl, rfl, by decide +kernel, rfl, by decide +kernel, by decide +kernel⟩
theorem ok__law_digits {P : Program} {w : World} {K : Frag} {mg : Str → Option Value} {base : Heap} {A : Ad} {f : Addr} {fd : FuncData} (F : Fun K "_law_digits" "_law_digits" (top 43) f fd) (T : Txt K mg w A)
    (len : ∀ vs H Q E, sp__law_digits A K vs H Q E → vs.length = 2)
    (pure : ∀ vs H Q E, sp__law_digits A K vs H Q E → t__law_digits A K w { nx := fun _ H' => Q .non H', rt := Q } (start N__law_digits vs) H) : FnOk P w K mg base (CX0) 1 f fd ["_law_cell_here", "_law_sizes"] (sp__law_digits A K) := by
  refine F.ok sc__law_digits (fun vs H Q E h => len vs H Q E h) (fun cdv Ar outer s H vs Q E hr h => ⟨t__law_digits A K w, ?_, pure vs H Q E h⟩)
  exact (pss_cons (ps_set (i := 2) sc__law_digits.nd rfl (Or.inl rfl) (pe_lst pa_nil))
      (pss_cons (ps_set (i := 3) sc__law_digits.nd rfl (Or.inl rfl) (pe_callTy call_intI (by rfl) T.f_int (by decide +kernel) (pa_cons (pv 0) pa_nil)))
      (pss_cons (ps_if (pt_cmpR op_ge (pv 3) (pe_op op_pow pe_int pe_int) (nomark _)) (pss_cons (ps_set (i := 3) sc__law_digits.nd rfl (Or.inl rfl) (pe_op op_sub (pv 3) (pe_op op_pow pe_int pe_int)))
      (pss_cons (ps_for PassesOwn.never rfl (pi_list (pv 1)) (pg_name (i := 6) sc__law_digits.nd rfl (Or.inl rfl))
        (pss_cons (ps_expr (pe_bm PySem.F.plainAttrs_list PySem.F.slot_list_append PySem.F.type_list_append mt_append (pv 2) (pa_cons (pe_op op_mod (pe_callTy call_intI (by rfl) T.f_int (by decide +kernel) (pa_cons (pv 3) pa_nil)) (pv 6)) pa_nil)))
      (pss_one (ps_set (i := 3) sc__law_digits.nd rfl (Or.inl rfl) (pe_op op_fdivW (pe_callTy call_intI (by rfl) T.f_int (by decide +kernel) (pa_cons (pv 3) pa_nil)) (pv 6))))))
      (pss_one (ps_ret (pv 2))))) pss_nil)
      (pss_cons (ps_set (i := 4) sc__law_digits.nd rfl (Or.inl rfl) (pe_op op_mod (pe_callTy call_intI (by rfl) T.f_int (by decide +kernel) (pa_cons (pv 3) pa_nil)) pe_int))
      (pss_cons (ps_for PassesOwn.never rfl (pi_range1 rfl T.f_range (pa_cons (pe_callB call_len_seq (by rfl) T.f_len PySem.boot_len (pa_cons (pv 1) pa_nil)) pa_nil)) (pg_name (i := 5) sc__law_digits.nd rfl (Or.inl rfl))
        (pss_cons (ps_set (i := 4) sc__law_digits.nd rfl (Or.inl rfl) (pe_op op_mod (pe_callTy call_intI (by rfl) T.f_int (by decide +kernel) (pa_cons (pe_op op_add (pe_op op_add (pe_op op_mul (pv 4) pe_int) (pe_op op_mul pe_int (pv 5))) pe_int) pa_nil)) pe_int))
      (pss_cons (ps_set (i := 7) sc__law_digits.nd rfl (Or.inl rfl) (pe_op op_mod (pe_callTy call_intI (by rfl) T.f_int (by decide +kernel) (pa_cons (pe_op op_mul (pv 4) (pe_op op_add (pe_op op_fdiv (pv 4) pe_int) pe_int)) pa_nil)) pe_int))
      (pss_one (ps_expr (pe_bm PySem.F.plainAttrs_list PySem.F.slot_list_append PySem.F.type_list_append mt_append (pv 2) (pa_cons (pe_op op_mod (pe_op op_fdiv (pv 7) pe_int) (pe_ix ix_list (pv 1) (pv 5) (fun _ _ => rfl))) pa_nil)))))))
      (pss_one (ps_ret (pv 2))))))))

theorem sc__law_word : FnScope N__law_word ["_law_a", "_law_b"] (defScope (top 44)) := ⟨rfl, rfl, rfl, by decide +kernel, rfl, by decide +kernel, by decide +kernel⟩
theorem ok__law_word {P : Program} {w : World} {K : Frag} {mg : Str → Option Value} {base : Heap} {A : Ad} {f : Addr} {fd : FuncData} (F : Fun K "_law_word" "_law_word" (top 44) f fd) (T : Txt K mg w A)
    (len : ∀ vs H Q E, sp__law_word A K vs H Q E → vs.length = 2)
    (pure : ∀ vs H Q E, sp__law_word A K vs H Q E → t__law_word A K w { nx := fun _ H' => Q .non H', rt := Q } (start N__law_word vs) H) : FnOk P w K mg base (CX0) 1 f fd ["_law_a", "_law_b"] (sp__law_word A K) := by
  refine F.ok sc__law_word (fun vs H Q E h => len vs H Q E h) (fun cdv Ar outer s H vs Q E hr h => ⟨t__law_word A K w, ?_, pure vs H Q E h⟩)
  exact (pss_cons (ps_if (pt_cmpR op_eq (pv 0) pe_int (nomark _)) (pss_one (ps_ret pe_int)) pss_nil)
      (pss_cons (ps_if (pt_cmpR op_eq (pv 0) pe_int (nomark _)) (pss_one (ps_ret (pe_op op_add (pe_op op_mul pe_int (pe_ix ix_list (pe_lst (pa_cons pe_int (pa_cons pe_int (pa_cons pe_int (pa_cons pe_int (pa_cons pe_int (pa_cons pe_int (pa_cons pe_int (pa_cons pe_int pa_nil))))))))) (pe_op op_mod (pe_callTy call_intI (by rfl) T.f_int (by decide +kernel) (pa_cons (pv 1) pa_nil)) pe_int) (fun _ _ => rfl))) pe_int))) pss_nil)
      (pss_cons (ps_if (pt_cmpR op_eq (pv 0) pe_int (nomark _)) (pss_one (ps_ret (pe_op op_add (pe_op op_mul pe_int (pe_op op_mod (pe_callTy call_intI (by rfl) T.f_int (by decide +kernel) (pa_cons (pv 1) pa_nil)) pe_int)) pe_int))) pss_nil)
      (pss_cons (ps_if (pt_cmpR op_eq (pv 0) pe_int (nomark _)) (pss_one (ps_ret (pe_op op_add (pe_op op_mul pe_int (pe_ix ix_list (pe_lst (pa_cons pe_int (pa_cons pe_int (pa_cons (pe_un un_neg pe_int) (pa_cons pe_int (pa_cons (pe_un un_neg pe_int) (pa_cons pe_int (pa_cons (pe_un un_neg pe_int) (pa_cons pe_int pa_nil))))))))) (pe_op op_mod (pe_callTy call_intI (by rfl) T.f_int (by decide +kernel) (pa_cons (pv 1) pa_nil)) pe_int) (fun _ _ => rfl))) pe_int))) pss_nil)
      (pss_cons (ps_if (pt_cmpR op_eq (pv 0) pe_int (nomark _)) (pss_one (ps_ret (pe_op op_add (pe_op op_mul pe_int (pe_op op_sub (pe_op op_mod (pe_callTy call_intI (by rfl) T.f_int (by decide +kernel) (pa_cons (pv 1) pa_nil)) pe_int) pe_int)) pe_int))) pss_nil)
      (pss_one (ps_ret (pe_op op_add (pe_op op_mul pe_int (pe_op op_sub (pe_op op_mod (pe_callTy call_intI (by rfl) T.f_int (by decide +kernel) (pa_cons (pe_op op_mul (pv 1) pe_int) pa_nil)) pe_int) pe_int)) pe_int))))))))

theorem sc__law_name : FnScope N__law_name ["_law_row_here"] (defScope (top 46)) := ⟨rfl, rfl, rfl, by decide +kernel, rfl, by decide +kernel, by decide +kernel⟩
theorem ok__law_name {P : Program} {w : World} {K : Frag} {mg : Str → Option Value} {base : Heap} {A : Ad} {f : Addr} {fd : FuncData} (F : Fun K "_law_name" "_law_name" (top 46) f fd) (T : Txt K mg w A)
    (len : ∀ vs H Q E, sp__law_name A K vs H Q E → vs.length = 1)
    (pure : ∀ vs H Q E, sp__law_name A K vs H Q E → t__law_name A K w { nx := fun _ H' => Q .non H', rt := Q } (start N__law_name vs) H) : FnOk P w K mg base (CX0) 1 f fd ["_law_row_here"] (sp__law_name A K) := by
  refine F.ok sc__law_name (fun vs H Q E h => len vs H Q E h) (fun cdv Ar outer s H vs Q E hr h => ⟨t__law_name A K w, ?_, pure vs H Q E h⟩)
  exact (pss_cons (ps_set (i := 1) sc__law_name.nd rfl (Or.inr rfl) pe_str)
      (pss_cons (ps_set (i := 2) sc__law_name.nd rfl (Or.inl rfl) (pe_op op_add_str (pe_ix ix_str (pv 1) (pe_ix ix_list (pv 0) pe_int (fun _ _ => rfl)) (fun _ _ => rfl)) (pe_join pe_str (pe_lc (own := [("_law_k", 3)]) (g := (gName 3)) (tt := tYes) rfl sc__law_name.nd (pi_list (pe_slice sl_list (pv 0) (po_some pe_int) (po_some (pe_op op_add pe_int (pe_ix ix_list (pv 0) pe_int (fun _ _ => rfl)))))) (blkOk_by (own := [("_law_k", 3)]) (N := N__law_name) (sc := defScope (top 46)) (by decide +kernel)) (fun _ _ _ _ _ => (pg_name (i := 3) sc__law_name.nd rfl (Or.inl rfl))) (fun _ _ _ _ _ => pts_nil) (fun _ _ _ _ _ => (pe_ix ix_str (pv 1) (pv 3) (fun _ _ => rfl)))))))
      (pss_cons (ps_if (pt_cmpR op_in_seq (pv 2) (pe_lst (pa_cons pe_str (pa_cons pe_str (pa_cons pe_str pa_nil)))) (by rfl)) (pss_one (ps_ret (pe_op op_add_str (pv 2) pe_str))) pss_nil)
      (pss_one (ps_ret (pv 2))))))

theorem sc__law_said : FnScope N__law_said ["_law_word_here"] (defScope (top 48)) := ⟨rfl, rfl, rfl, by decide +kernel, rfl, by decide +kernel, by decide +kernel⟩
theorem ok__law_said {P : Program} {w : World} {K : Frag} {mg : Str → Option Value} {base : Heap} {A : Ad} {f : Addr} {fd : FuncData} (F : Fun K "_law_said" "_law_said" (top 48) f fd) (T : Txt K mg w A)
    (len : ∀ vs H Q E, sp__law_said A K vs H Q E → vs.length = 1)
    (pure : ∀ vs H Q E, sp__law_said A K vs H Q E → t__law_said A K w { nx := fun _ H' => Q .non H', rt := Q } (start N__law_said vs) H) : FnOk P w K mg base (CX0) 1 f fd ["_law_word_here"] (sp__law_said A K) := by
  refine F.ok sc__law_said (fun vs H Q E h => len vs H Q E h) (fun cdv Ar outer s H vs Q E hr h => ⟨t__law_said A K w, ?_, pure vs H Q E h⟩)
  exact (pss_cons (ps_if (pt_cmpR op_eq (pv 0) pe_int (nomark _)) (pss_one (ps_ret pe_str)) pss_nil)
      (pss_cons (ps_if (pt_cmpR op_eq (pe_op op_mod (pe_callTy call_intI (by rfl) T.f_int (by decide +kernel) (pa_cons (pv 0) pa_nil)) pe_int) pe_int (nomark _)) (pss_one (ps_ret (pe_callTy call_str_int (by rfl) T.f_str (by decide +kernel) (pa_cons (pe_op op_fdiv (pe_op op_sub (pv 0) pe_int) pe_int) pa_nil)))) pss_nil)
      (pss_one (ps_ret (pe_op op_add_str pe_str (pe_callTy call_str_int (by rfl) T.f_str (by decide +kernel) (pa_cons (pe_op op_sub (pe_op op_fdiv (pv 0) pe_int) pe_int) pa_nil)))))))

theorem sc__law_aimed : FnScope N__law_aimed ["_law_lines", "_law_deed", "_law_one", "_law_two", "_law_three"] (defScope (top 51)) := ⟨rfl, rfl, rfl, by decide +kernel, rfl, by decide +kernel, by decide +kernel⟩
theorem ok__law_aimed {P : Program} {w : World} {K : Frag} {mg : Str → Option Value} {base : Heap} {A : Ad} {f : Addr} {fd : FuncData} (F : Fun K "_law_aimed" "_law_aimed" (top 51) f fd) (T : Txt K mg w A)
    (len : ∀ vs H Q E, sp__law_aimed A K vs H Q E → vs.length = 5)
    (pure : ∀ vs H Q E, sp__law_aimed A K vs H Q E → t__law_aimed A K w { nx := fun _ H' => Q .non H', rt := Q } (start N__law_aimed vs) H) : FnOk P w K mg base (CX0) 1 f fd ["_law_lines", "_law_deed", "_law_one", "_law_two", "_law_three"] (sp__law_aimed A K) := by
  refine F.ok sc__law_aimed (fun vs H Q E h => len vs H Q E h) (fun cdv Ar outer s H vs Q E hr h => ⟨t__law_aimed A K w, ?_, pure vs H Q E h⟩)
  exact (pss_cons (ps_set (i := 5) sc__law_aimed.nd rfl (Or.inl rfl) (pe_lst (pa_cons pe_str (pa_cons pe_str (pa_cons pe_str (pa_cons pe_str (pa_cons pe_str (pa_cons pe_str (pa_cons pe_str (pa_cons pe_str (pa_cons pe_str (pa_cons pe_str (pa_cons pe_str (pa_cons pe_str (pa_cons pe_str pa_nil)))))))))))))))
      (pss_cons (ps_set (i := 5) sc__law_aimed.nd rfl (Or.inl rfl) (pe_op op_cat (pe_op op_cat (pv 5) (pe_lst (pa_cons pe_str (pa_cons pe_str (pa_cons pe_str pa_nil))))) (pe_op op_rep (pe_lst (pa_cons pe_str pa_nil)) pe_int)))
      (pss_cons (ps_set (i := 6) sc__law_aimed.nd rfl (Or.inl rfl) (pe_lst (pa_cons pe_str (pa_cons pe_str (pa_cons pe_str (pa_cons pe_str (pa_cons pe_str (pa_cons pe_str (pa_cons pe_str (pa_cons pe_str (pa_cons pe_str (pa_cons pe_str (pa_cons pe_str (pa_cons pe_str (pa_cons pe_str (pa_cons pe_str (pa_cons pe_str (pa_cons pe_str pa_nil))))))))))))))))))
      (pss_cons (ps_set (i := 6) sc__law_aimed.nd rfl (Or.inl rfl) (pe_op op_cat (pv 6) (pe_op op_rep (pe_lst (pa_cons pe_str pa_nil)) pe_int)))
      (pss_cons (ps_set (i := 7) sc__law_aimed.nd rfl (Or.inl rfl) (pe_lst (pa_cons pe_str (pa_cons pe_str (pa_cons pe_str (pa_cons pe_str (pa_cons pe_str (pa_cons pe_str (pa_cons pe_str (pa_cons pe_str (pa_cons pe_str (pa_cons pe_str (pa_cons pe_str (pa_cons pe_str (pa_cons pe_str pa_nil)))))))))))))))
      (pss_cons (ps_set (i := 7) sc__law_aimed.nd rfl (Or.inl rfl) (pe_op op_cat (pv 7) (pe_lst (pa_cons pe_str (pa_cons pe_str (pa_cons pe_str (pa_cons pe_str (pa_cons pe_str (pa_cons pe_str (pa_cons pe_str (pa_cons pe_str (pa_cons pe_str (pa_cons pe_str (pa_cons pe_str pa_nil))))))))))))))
      (pss_cons (ps_set (i := 8) sc__law_aimed.nd rfl (Or.inl rfl) (pe_lst (pa_cons pe_str (pa_cons pe_str (pa_cons pe_str (pa_cons pe_str (pa_cons pe_str (pa_cons pe_str (pa_cons pe_str (pa_cons pe_str (pa_cons pe_str (pa_cons pe_str (pa_cons pe_str pa_nil)))))))))))))
      (pss_cons (ps_set (i := 9) sc__law_aimed.nd rfl (Or.inr rfl) (pe_lc (own := [("_law_line_here", 14)]) (g := (gName 14)) (tt := tYes) rfl sc__law_aimed.nd (pi_list (pv 0)) (blkOk_by (own := [("_law_line_here", 14)]) (N := N__law_aimed) (sc := defScope (top 51)) (by decide +kernel)) (fun _ _ _ _ _ => (pg_name (i := 14) sc__law_aimed.nd rfl (Or.inl rfl))) (fun _ _ _ _ _ => pts_nil) (fun _ _ _ _ _ => (pe_ix ix_list (pe_split (pv 14) pe_str) pe_int (fun _ _ => rfl)))))
      (pss_cons (ps_setLc (i := 10) (own := [("_law_k", 15)]) (g := (gName 15)) (tt := (tTest (tOp (rIn K false) (tOp (rIxL K) (tVar 9) (tVar 15)) (tLst (tCons (tC (.str "static")) (tCons (tC (.str "slots")) (tCons (tC (.str "stack")) (tCons (tC (.str "watched")) (tCons (tC (.str "parted")) (tCons (tC (.str "object")) tNil)))))))))) rfl sc__law_aimed.nd rfl rfl (sw_true rfl rfl rfl (by decide +kernel)) (pi_range1 rfl T.f_range (pa_cons (pe_callB call_len_seq (by rfl) T.f_len PySem.boot_len (pa_cons (pv 0) pa_nil)) pa_nil)) (blkOk_by (own := [("_law_k", 15)]) (N := N__law_aimed) (sc := defScope (top 51)) (by decide +kernel)) (fun _ _ _ _ _ => (pg_name (i := 15) sc__law_aimed.nd rfl (Or.inl rfl))) (fun _ _ _ _ _ => pts_one (pt_cmpR op_in_seq (pe_ix ix_list (pv 9) (pv 15) (fun _ _ => rfl)) (pe_lst (pa_cons pe_str (pa_cons pe_str (pa_cons pe_str (pa_cons pe_str (pa_cons pe_str (pa_cons pe_str pa_nil))))))) (by rfl))) (fun _ _ _ _ _ => (pv 15)))
      (pss_cons (ps_set (i := 11) sc__law_aimed.nd rfl (Or.inl rfl) (pe_bm PySem.F.plainAttrs_list PySem.F.slot_list_index PySem.F.type_list_index mt_index (pe_op op_cat (pv 9) (pe_lst (pa_cons pe_str pa_nil))) (pa_cons pe_str pa_nil)))
      (pss_cons (ps_if (pt_cmpR op_eq (pv 1) pe_int (nomark _)) (pss_one (ps_ret (pe_op op_cat (pe_slice sl_list (pv 0) po_none (po_some (pe_op op_mod (pe_callTy call_intI (by rfl) T.f_int (by decide +kernel) (pa_cons (pv 2) pa_nil)) (pe_callB call_len_seq (by rfl) T.f_len PySem.boot_len (pa_cons (pv 0) pa_nil))))) (pe_lst (pa_cons pe_str pa_nil))))) pss_nil)
      (pss_cons (ps_if (pt_cmpR op_eq (pv 1) pe_int (nomark _)) (pss_cons (ps_set (i := 13) sc__law_aimed.nd rfl (Or.inl rfl) (pe_op op_add_str (pe_op op_add_str (pe_op op_add_str pe_str (pe_ix ix_list (pv 5) (pe_op op_mod (pe_callTy call_intI (by rfl) T.f_int (by decide +kernel) (pa_cons (pv 2) pa_nil)) pe_int) (fun _ _ => rfl))) pe_str) (pe_ix ix_list (pv 6) (pe_op op_mod (pe_callTy call_intI (by rfl) T.f_int (by decide +kernel) (pa_cons (pv 3) pa_nil)) pe_int) (fun _ _ => rfl))))
      (pss_one (ps_ret (pe_op op_cat (pe_op op_cat (pe_slice sl_list (pv 0) po_none (po_some (pv 11))) (pe_lst (pa_cons (pv 13) (pa_cons pe_str (pa_cons pe_str pa_nil))))) (pe_slice sl_list (pv 0) (po_some (pv 11)) po_none))))) pss_nil)
      (pss_cons (ps_if (pt_cmpR op_eq (pv 1) pe_int (nomark _)) (pss_one (ps_ret (pe_op op_cat (pe_op op_cat (pe_slice sl_list (pv 0) po_none (po_some (pe_op op_sub (pe_callB call_len_seq (by rfl) T.f_len PySem.boot_len (pa_cons (pv 0) pa_nil)) pe_int))) (pe_lst (pa_cons (pe_op op_add_str (pe_op op_add_str pe_str (pe_ix ix_list (pv 5) (pe_op op_mod (pe_callTy call_intI (by rfl) T.f_int (by decide +kernel) (pa_cons (pv 2) pa_nil)) pe_int) (fun _ _ => rfl))) (pe_ix ix_list (pe_lst (pa_cons pe_str (pa_cons pe_str pa_nil))) (pe_op op_mod (pe_callTy call_intI (by rfl) T.f_int (by decide +kernel) (pa_cons (pv 3) pa_nil)) pe_int) (fun _ _ => rfl))) pa_nil))) (pe_slice sl_list (pv 0) (po_some (pe_op op_sub (pe_callB call_len_seq (by rfl) T.f_len PySem.boot_len (pa_cons (pv 0) pa_nil)) pe_int)) po_none)))) pss_nil)
      (pss_cons (ps_if (PW.pt (pw_and (pt_cmpR op_eq (pv 1) pe_int (nomark _)) (pw_and1 (pt_cmpR op_gt (pe_callB call_len_seq (by rfl) T.f_len PySem.boot_len (pa_cons (pv 10) pa_nil)) pe_int (nomark _))))) (pss_cons (ps_set (i := 12) sc__law_aimed.nd rfl (Or.inl rfl) (pe_ix ix_list (pv 10) (pe_op op_mod (pe_callTy call_intI (by rfl) T.f_int (by decide +kernel) (pa_cons (pv 2) pa_nil)) (pe_callB call_len_seq (by rfl) T.f_len PySem.boot_len (pa_cons (pv 10) pa_nil))) (fun _ _ => rfl)))
      (pss_cons (ps_set (i := 14) sc__law_aimed.nd rfl (Or.inl rfl) (pe_ix ix_list (pe_lst (pa_cons (pe_ix ix_list (pv 0) (pv 12) (fun _ _ => rfl)) (pa_cons pe_str pa_nil))) (pe_callTy call_intB (by rfl) T.f_int (by decide +kernel) (pa_cons (pe_cmpR op_eq (pe_ix ix_list (pv 9) (pv 12) (fun _ _ => rfl)) pe_str (nomark _)) pa_nil)) (fun _ _ => rfl)))
      (pss_one (ps_ret (pe_op op_cat (pe_op op_cat (pe_slice sl_list (pv 0) po_none (po_some (pv 12))) (pe_lst (pa_cons (pe_op op_add_str (pe_op op_add_str (pv 14) pe_str) (pe_ix ix_list (pv 7) (pe_op op_mod (pe_callTy call_intI (by rfl) T.f_int (by decide +kernel) (pa_cons (pv 3) pa_nil)) (pe_callB call_len_seq (by rfl) T.f_len PySem.boot_len (pa_cons (pv 7) pa_nil))) (fun _ _ => rfl))) pa_nil))) (pe_slice sl_list (pv 0) (po_some (pe_op op_add (pv 12) pe_int)) po_none)))))) pss_nil)
      (pss_cons (ps_set (i := 12) sc__law_aimed.nd rfl (Or.inl rfl) (pe_op op_mod (pe_callTy call_intI (by rfl) T.f_int (by decide +kernel) (pa_cons (pv 2) pa_nil)) (pe_callB call_len_seq (by rfl) T.f_len PySem.boot_len (pa_cons (pv 0) pa_nil))))
      (pss_one (ps_ret (pe_op op_cat (pe_op op_cat (pe_slice sl_list (pv 0) po_none (po_some (pv 12))) (pe_lst (pa_cons (pe_ix ix_list (pv 8) (pe_op op_mod (pe_callTy call_intI (by rfl) T.f_int (by decide +kernel) (pa_cons (pv 3) pa_nil)) (pe_callB call_len_seq (by rfl) T.f_len PySem.boot_len (pa_cons (pv 8) pa_nil))) (fun _ _ => rfl)) pa_nil))) (pe_slice sl_list (pv 0) (po_some (pe_op op_add (pv 12) (pe_op op_mod (pe_callTy call_intI (by rfl) T.f_int (by decide +kernel) (pa_cons (pv 4) pa_nil)) pe_int))) po_none)))))))))))))))))))

theorem sc__law_same_picture : FnScope N__law_same_picture ["_law_picture", "_law_due"] (defScope (top 55)) := ⟨rfl, rfl, rfl, by decide +kernel, rfl, by decide +kernel, by decide +kernel⟩
theorem ok__law_same_picture {P : Program} {w : World} {K : Frag} {mg : Str → Option Value} {base : Heap} {A : Ad} {f : Addr} {fd : FuncData} (F : Fun K "_law_same_picture" "_law_same_picture" (top 55) f fd) (T : Txt K mg w A)
    (len : ∀ vs H Q E, sp__law_same_picture A K vs H Q E → vs.length = 2)
    (pure : ∀ vs H Q E, sp__law_same_picture A K vs H Q E → t__law_same_picture A K w { nx := fun _ H' => Q .non H', rt := Q } (start N__law_same_picture vs) H) : FnOk P w K mg base (CX0) 1 f fd ["_law_picture", "_law_due"] (sp__law_same_picture A K) := by
  refine F.ok sc__law_same_picture (fun vs H Q E h => len vs H Q E h) (fun cdv Ar outer s H vs Q E hr h => ⟨t__law_same_picture A K w, ?_, pure vs H Q E h⟩)
  exact (pss_one (ps_ret (pe_and (pe_cmpR (op_eqD hr.units) (pe_fld (pv 0) rfl) (pe_ix ix_tup (pv 1) pe_int (fun _ _ => rfl)) (nomark _)) (pe_and (pe_cmpR (op_eqD hr.units) (pe_fld (pv 0) rfl) (pe_ix ix_tup (pv 1) pe_int (fun _ _ => rfl)) (nomark _)) (pe_and (pe_cmpR (op_eqD hr.units) (pe_fld (pv 0) rfl) (pe_ix ix_tup (pv 1) pe_int (fun _ _ => rfl)) (nomark _)) (pe_and (pe_cmpR (op_eqD hr.units) (pe_fld (pv 0) rfl) (pe_ix ix_tup (pv 1) pe_int (fun _ _ => rfl)) (nomark _)) (pe_one (pe_cmpR (op_eqD hr.units) (pe_fld (pv 0) rfl) (pe_ix ix_tup (pv 1) pe_int (fun _ _ => rfl)) (nomark _)))))))))

theorem sc_number_word : FnScope N_number_word ["n"] (defScope (top 9)) := ⟨rfl, rfl, rfl, by decide +kernel, rfl, by decide +kernel, by decide +kernel⟩
theorem ok_number_word {P : Program} {w : World} {K : Frag} {mg : Str → Option Value} {base : Heap} {A : Ad} {f : Addr} {fd : FuncData} (F : Fun K "number_word" "number_word" (top 9) f fd) (T : Txt K mg w A)
    (c_wrap : Cal P w K mg base CX0 1 "wrap" ["n"] (sp_wrap A K))
    (len : ∀ vs H Q E, sp_number_word A K vs H Q E → vs.length = 1)
    (pure : ∀ vs H Q E, sp_number_word A K vs H Q E → t_number_word A K w { nx := fun _ H' => Q .non H', rt := Q } (start N_number_word vs) H) : FnOk P w K mg base (CX0) 2 f fd ["n"] (sp_number_word A K) := by
  refine F.ok sc_number_word (fun vs H Q E h => len vs H Q E h) (fun cdv Ar outer s H vs Q E hr h => ⟨t_number_word A K w, ?_, pure vs H Q E h⟩)
  exact (pss_one (ps_ret (pe_op op_add (pe_op op_mul pe_int (pe_cal c_wrap hr (pa_cons (pv 0) pa_nil))) pe_int)))

theorem sc_word_text : FnScope N_word_text ["word"] (defScope (top 27)) := ⟨rfl, rfl, rfl, by decide +kernel, rfl, by decide +kernel, by decide +kernel⟩
theorem ok_word_text {P : Program} {w : World} {K : Frag} {mg : Str → Option Value} {base : Heap} {A : Ad} {f : Addr} {fd : FuncData} (F : Fun K "word_text" "word_text" (top 27) f fd) (T : Txt K mg w A)
    (c_is_number : Cal P w K mg base CX0 1 "is_number" ["word"] (sp_is_number A K))
    (c_number_of : Cal P w K mg base CX0 1 "number_of" ["word"] (sp_number_of A K))
    (c_address_of : Cal P w K mg base CX0 1 "address_of" ["word"] (sp_address_of A K))
    (len : ∀ vs H Q E, sp_word_text A K vs H Q E → vs.length = 1)
    (pure : ∀ vs H Q E, sp_word_text A K vs H Q E → t_word_text A K w { nx := fun _ H' => Q .non H', rt := Q } (start N_word_text vs) H) : FnOk P w K mg base (CX0) 2 f fd ["word"] (sp_word_text A K) := by
  refine F.ok sc_word_text (fun vs H Q E h => len vs H Q E h) (fun cdv Ar outer s H vs Q E hr h => ⟨t_word_text A K w, ?_, pure vs H Q E h⟩)
  exact (pss_cons (ps_if (pt_cmpR op_eq (pv 0) (T.g_NIL) (nomark _)) (pss_one (ps_ret pe_str)) pss_nil)
      (pss_cons (ps_if (pt_val (pe_cal c_is_number hr (pa_cons (pv 0) pa_nil))) (pss_one (ps_ret (pe_callTy call_str_int (by rfl) T.f_str (by decide +kernel) (pa_cons (pe_cal c_number_of hr (pa_cons (pv 0) pa_nil)) pa_nil)))) pss_nil)
      (pss_one (ps_ret (pe_op op_add_str pe_str (pe_callTy call_str_int (by rfl) T.f_str (by decide +kernel) (pa_cons (pe_op op_sub (pe_cal c_address_of hr (pa_cons (pv 0) pa_nil)) pe_int) pa_nil)))))))

theorem sc_integer_between : FnScope N_integer_between ["text", "least", "most"] (defScope (top 29)) := ⟨rfl, rfl, rfl, by decide +kernel, rfl, by decide +kernel, by decide +kernel⟩
theorem ok_integer_between {P : Program} {w : World} {K : Frag} {mg : Str → Option Value} {base : Heap} {A : Ad} {f : Addr} {fd : FuncData} (F : Fun K "integer_between" "integer_between" (top 29) f fd) (T : Txt K mg w A)
    (c_integer_of : Cal P w K mg base CX0 1 "integer_of" ["word"] (sp_integer_of A K))
    (len : ∀ vs H Q E, sp_integer_between A K vs H Q E → vs.length = 3)
    (pure : ∀ vs H Q E, sp_integer_between A K vs H Q E → t_integer_between A K w { nx := fun _ H' => Q .non H', rt := Q } (start N_integer_between vs) H) : FnOk P w K mg base (CX0) 2 f fd ["text", "least", "most"] (sp_integer_between A K) := by
  refine F.ok sc_integer_between (fun vs H Q E h => len vs H Q E h) (fun cdv Ar outer s H vs Q E hr h => ⟨t_integer_between A K w, ?_, pure vs H Q E h⟩)
  exact (pss_cons (ps_set (i := 3) sc_integer_between.nd rfl (Or.inl rfl) (pe_cal c_integer_of hr (pa_cons (pv 0) pa_nil)))
      (pss_cons (ps_if (PW.pt (pw_or (pt_cmpR op_isN (pv 3) pe_non (nomark _)) (pw_or (pt_cmpR op_lt (pv 3) (pv 1) (nomark _)) (pw_or1 (pt_cmpR op_gt (pv 3) (pv 2) (nomark _)))))) (pss_one (ps_ret pe_non)) pss_nil)
      (pss_one (ps_ret (pv 3)))))

theorem sc__law_words : FnScope N__law_words ["_law_cell_here", "_law_many"] (defScope (top 45)) := ⟨rfl, rfl, rfl, by decide +kernel, rfl, by decide +kernel, by decide +kernel⟩
theorem ok__law_words {P : Program} {w : World} {K : Frag} {mg : Str → Option Value} {base : Heap} {A : Ad} {f : Addr} {fd : FuncData} (F : Fun K "_law_words" "_law_words" (top 45) f fd) (T : Txt K mg w A)
    (c__law_digits : Cal P w K mg base CX0 1 "_law_digits" ["_law_cell_here", "_law_sizes"] (sp__law_digits A K))
    (c__law_word : Cal P w K mg base CX0 1 "_law_word" ["_law_a", "_law_b"] (sp__law_word A K))
    (len : ∀ vs H Q E, sp__law_words A K vs H Q E → vs.length = 2)
    (pure : ∀ vs H Q E, sp__law_words A K vs H Q E → t__law_words A K w { nx := fun _ H' => Q .non H', rt := Q } (start N__law_words vs) H) : FnOk P w K mg base (CX0) 2 f fd ["_law_cell_here", "_law_many"] (sp__law_words A K) := by
  refine F.ok sc__law_words (fun vs H Q E h => len vs H Q E h) (fun cdv Ar outer s H vs Q E hr h => ⟨t__law_words A K w, ?_, pure vs H Q E h⟩)
  exact (pss_cons (ps_set (i := 2) sc__law_words.nd rfl (Or.inr rfl) (pe_cal c__law_digits hr (pa_cons (pv 0) (pa_cons (pe_op op_rep (pe_lst (pa_cons pe_int (pa_cons pe_int pa_nil))) (pv 1)) pa_nil))))
      (pss_one (ps_ret (pe_lc (own := [("_law_k", 3)]) (g := (gName 3)) (tt := tYes) rfl sc__law_words.nd (pi_range1 rfl T.f_range (pa_cons (pv 1) pa_nil)) (blkOk_by (own := [("_law_k", 3)]) (N := N__law_words) (sc := defScope (top 45)) (by decide +kernel)) (fun _ _ _ _ _ => (pg_name (i := 3) sc__law_words.nd rfl (Or.inl rfl))) (fun _ _ _ _ _ => pts_nil) (fun _ _ _ _ _ => (pe_cal c__law_word hr (pa_cons (pe_ix ix_list (pv 2) (pe_op op_mul pe_int (pv 3)) (fun _ _ => rfl)) (pa_cons (pe_ix ix_list (pv 2) (pe_op op_add (pe_op op_mul pe_int (pv 3)) pe_int) (fun _ _ => rfl)) pa_nil))))))))

theorem sc__law_line : FnScope N__law_line ["_law_first", "_law_words_here"] (defScope (top 49)) := ⟨rfl, rfl, rfl, by decide +kernel, rfl, by decide +kernel, by decide +kernel⟩
theorem ok__law_line {P : Program} {w : World} {K : Frag} {mg : Str → Option Value} {base : Heap} {A : Ad} {f : Addr} {fd : FuncData} (F : Fun K "_law_line" "_law_line" (top 49) f fd) (T : Txt K mg w A)
    (c__law_said : Cal P w K mg base CX0 1 "_law_said" ["_law_word_here"] (sp__law_said A K))
    (len : ∀ vs H Q E, sp__law_line A K vs H Q E → vs.length = 2)
    (pure : ∀ vs H Q E, sp__law_line A K vs H Q E → t__law_line A K w { nx := fun _ H' => Q .non H', rt := Q } (start N__law_line vs) H) : FnOk P w K mg base (CX0) 2 f fd ["_law_first", "_law_words_here"] (sp__law_line A K) := by
  refine F.ok sc__law_line (fun vs H Q E h => len vs H Q E h) (fun cdv Ar outer s H vs Q E hr h => ⟨t__law_line A K w, ?_, pure vs H Q E h⟩)
  exact (pss_one (ps_ret (pe_op op_add_str (pe_join pe_str (pe_op op_cat (pe_lst (pa_cons (pv 0) pa_nil)) (pe_lc (own := [("_law_word_here", 2)]) (g := (gName 2)) (tt := tYes) rfl sc__law_line.nd (pi_or (pi_list (pv 1)) (pi_tup (pv 1))) (blkOk_by (own := [("_law_word_here", 2)]) (N := N__law_line) (sc := defScope (top 49)) (by decide +kernel)) (fun _ _ _ _ _ => (pg_name (i := 2) sc__law_line.nd rfl (Or.inl rfl))) (fun _ _ _ _ _ => pts_nil) (fun _ _ _ _ _ => (pe_cal c__law_said hr (pa_cons (pv 2) pa_nil)))))) pe_str)))

theorem sc__law_edited : FnScope N__law_edited ["_law_text_here", "_law_row_here"] (defScope (top 52)) := ⟨rfl, rfl, rfl, by decide +kernel, rfl, by decide +kernel, by decide +kernel⟩
theorem ok__law_edited {P : Program} {w : World} {K : Frag} {mg : Str → Option Value} {base : Heap} {A : Ad} {f : Addr} {fd : FuncData} (F : Fun K "_law_edited" "_law_edited" (top 52) f fd) (T : Txt K mg w A)
    (c__law_aimed : Cal P w K mg base CX0 1 "_law_aimed" ["_law_lines", "_law_deed", "_law_one", "_law_two", "_law_three"] (sp__law_aimed A K))
    (len : ∀ vs H Q E, sp__law_edited A K vs H Q E → vs.length = 2)
    (pure : ∀ vs H Q E, sp__law_edited A K vs H Q E → t__law_edited A K w { nx := fun _ H' => Q .non H', rt := Q } (start N__law_edited vs) H) : FnOk P w K mg base (CX0) 2 f fd ["_law_text_here", "_law_row_here"] (sp__law_edited A K) := by
  refine F.ok sc__law_edited (fun vs H Q E h => len vs H Q E h) (fun cdv Ar outer s H vs Q E hr h => ⟨t__law_edited A K w, ?_, pure vs H Q E h⟩)
  exact (pss_cons (ps_set (i := 2) sc__law_edited.nd rfl (Or.inl rfl) pe_str)
      (pss_cons (ps_set (i := 3) sc__law_edited.nd rfl (Or.inl rfl) (pe_lst (pa_cons pe_str (pa_cons pe_str (pa_cons pe_str (pa_cons pe_str (pa_cons pe_str (pa_cons pe_str (pa_cons pe_str (pa_cons pe_str (pa_cons pe_str (pa_cons pe_str (pa_cons pe_str (pa_cons pe_str (pa_cons pe_str (pa_cons pe_str (pa_cons pe_str (pa_cons pe_str pa_nil))))))))))))))))))
      (pss_cons (ps_set (i := 3) sc__law_edited.nd rfl (Or.inl rfl) (pe_op op_cat (pv 3) (pe_lst (pa_cons pe_str (pa_cons pe_str (pa_cons pe_str (pa_cons pe_str (pa_cons pe_str (pa_cons pe_str (pa_cons pe_str (pa_cons pe_str (pa_cons pe_str (pa_cons pe_str pa_nil)))))))))))))
      (pss_cons (ps_set (i := 3) sc__law_edited.nd rfl (Or.inl rfl) (pe_op op_cat (pv 3) (pe_lst (pa_cons pe_str (pa_cons pe_str (pa_cons pe_str (pa_cons pe_str (pa_cons pe_str (pa_cons pe_str (pa_cons pe_str (pa_cons pe_str (pa_cons pe_str (pa_cons pe_str (pa_cons pe_str pa_nil))))))))))))))
      (pss_cons (ps_set (i := 3) sc__law_edited.nd rfl (Or.inl rfl) (pe_op op_cat (pv 3) (pe_lst (pa_cons pe_str (pa_cons pe_str (pa_cons pe_str (pa_cons pe_str (pa_cons (pe_op op_mulS pe_str pe_int) (pa_cons (pe_op op_add_str pe_str (pe_op op_mulS pe_str pe_int)) (pa_cons (pe_op op_add_str pe_str (pe_op op_mulS pe_str pe_int)) pa_nil))))))))))
      (pss_cons (ps_set (i := 4) sc__law_edited.nd rfl (Or.inl rfl) (pe_lst (pa_cons pe_str (pa_cons pe_str (pa_cons pe_str (pa_cons pe_str (pa_cons pe_str (pa_cons pe_str (pa_cons pe_str (pa_cons pe_str pa_nil))))))))))
      (pss_cons (ps_set (i := 4) sc__law_edited.nd rfl (Or.inl rfl) (pe_op op_cat (pv 4) (pe_lst (pa_cons pe_str (pa_cons pe_str (pa_cons pe_str (pa_cons pe_str (pa_cons pe_str (pa_cons pe_str (pa_cons pe_str (pa_cons pe_str (pa_cons pe_str pa_nil))))))))))))
      (pss_cons (ps_set (i := 4) sc__law_edited.nd rfl (Or.inl rfl) (pe_op op_cat (pv 4) (pe_lst (pa_cons pe_str (pa_cons pe_str (pa_cons pe_str (pa_cons pe_str (pa_cons pe_str (pa_cons pe_str pa_nil)))))))))
      (pss_cons (ps_set (i := 5) sc__law_edited.nd rfl (Or.inl rfl) (pe_split (pv 0) pe_str))
      (pss_cons (ps_set (i := 6) sc__law_edited.nd rfl (Or.inl rfl) (pe_op op_mod (pe_callTy call_intI (by rfl) T.f_int (by decide +kernel) (pa_cons (pe_ix ix_list (pv 1) pe_int (fun _ _ => rfl)) pa_nil)) (pe_callB call_len_seq (by rfl) T.f_len PySem.boot_len (pa_cons (pv 5) pa_nil))))
      (pss_cons (ps_set (i := 7) sc__law_edited.nd rfl (Or.inl rfl) (pe_op op_mod (pe_callTy call_intI (by rfl) T.f_int (by decide +kernel) (pa_cons (pe_ix ix_list (pv 1) pe_int (fun _ _ => rfl)) pa_nil)) (pe_callB call_len_seq (by rfl) T.f_len PySem.boot_len (pa_cons (pv 5) pa_nil))))
      (pss_cons (ps_set (i := 8) sc__law_edited.nd rfl (Or.inl rfl) (pe_op op_mod (pe_callTy call_intI (by rfl) T.f_int (by decide +kernel) (pa_cons (pe_ix ix_list (pv 1) pe_int (fun _ _ => rfl)) pa_nil)) (pe_op op_add (pe_callB call_len_str (by rfl) T.f_len PySem.boot_len (pa_cons (pv 0) pa_nil)) pe_int)))
      (pss_cons (ps_set (i := 9) sc__law_edited.nd rfl (Or.inl rfl) (pe_ix ix_str (pv 2) (pe_op op_mod (pe_callTy call_intI (by rfl) T.f_int (by decide +kernel) (pa_cons (pe_ix ix_list (pv 1) pe_int (fun _ _ => rfl)) pa_nil)) (pe_callB call_len_str (by rfl) T.f_len PySem.boot_len (pa_cons (pv 2) pa_nil))) (fun _ _ => rfl)))
      (pss_cons (ps_set (i := 10) sc__law_edited.nd rfl (Or.inl rfl) (pe_split (pe_ix ix_list (pv 5) (pv 6) (fun _ _ => rfl)) pe_str))
      (pss_cons (ps_set (i := 11) sc__law_edited.nd rfl (Or.inl rfl) (pe_op op_mod (pe_callTy call_intI (by rfl) T.f_int (by decide +kernel) (pa_cons (pe_ix ix_list (pv 1) pe_int (fun _ _ => rfl)) pa_nil)) (pe_callB call_len_seq (by rfl) T.f_len PySem.boot_len (pa_cons (pv 10) pa_nil))))
      (pss_cons (ps_if (pt_cmpR op_eq (pe_ix ix_list (pv 1) pe_int (fun _ _ => rfl)) pe_int (nomark _)) (pss_one (ps_ret (pe_op op_add_str (pe_op op_add_str (pe_slice sl_str (pv 0) po_none (po_some (pv 8))) (pv 9)) (pe_slice sl_str (pv 0) (po_some (pe_op op_add (pv 8) pe_int)) po_none)))) pss_nil)
      (pss_cons (ps_if (pt_cmpR op_eq (pe_ix ix_list (pv 1) pe_int (fun _ _ => rfl)) pe_int (nomark _)) (pss_one (ps_ret (pe_op op_add_str (pe_op op_add_str (pe_slice sl_str (pv 0) po_none (po_some (pv 8))) (pv 9)) (pe_slice sl_str (pv 0) (po_some (pv 8)) po_none)))) pss_nil)
      (pss_cons (ps_if (pt_cmpR op_eq (pe_ix ix_list (pv 1) pe_int (fun _ _ => rfl)) pe_int (nomark _)) (pss_one (ps_ret (pe_op op_add_str (pe_slice sl_str (pv 0) po_none (po_some (pv 8))) (pe_slice sl_str (pv 0) (po_some (pe_op op_add (pv 8) pe_int)) po_none)))) pss_nil)
      (pss_cons (ps_if (pt_cmpR op_eq (pe_ix ix_list (pv 1) pe_int (fun _ _ => rfl)) pe_int (nomark _)) (pss_one (ps_ret (pe_slice sl_str (pv 0) po_none (po_some (pv 8))))) pss_nil)
      (pss_cons (ps_if (pt_cmpR op_eq (pe_ix ix_list (pv 1) pe_int (fun _ _ => rfl)) pe_int (nomark _)) (pss_one (ps_ret (pe_op op_add_str (pe_op op_add_str (pv 0) (pe_ix ix_list (pv 4) (pe_ix ix_list (pv 1) pe_int (fun _ _ => rfl)) (fun _ _ => rfl))) (pe_ix ix_list (pe_lst (pa_cons pe_str (pa_cons pe_str pa_nil))) (pe_op op_mod (pe_callTy call_intI (by rfl) T.f_int (by decide +kernel) (pa_cons (pe_ix ix_list (pv 1) pe_int (fun _ _ => rfl)) pa_nil)) pe_int) (fun _ _ => rfl))))) pss_nil)
      (pss_cons (ps_if (pt_cmpR op_eq (pe_ix ix_list (pv 1) pe_int (fun _ _ => rfl)) pe_int (nomark _)) (pss_one (ps_set (i := 5) sc__law_edited.nd rfl (Or.inl rfl) (pe_op op_cat (pe_slice sl_list (pv 5) po_none (po_some (pv 6))) (pe_slice sl_list (pv 5) (po_some (pe_op op_add (pv 6) pe_int)) po_none)))) pss_nil)
      (pss_cons (ps_if (pt_cmpR op_eq (pe_ix ix_list (pv 1) pe_int (fun _ _ => rfl)) pe_int (nomark _)) (pss_one (ps_set (i := 5) sc__law_edited.nd rfl (Or.inl rfl) (pe_op op_cat (pe_op op_cat (pe_slice sl_list (pv 5) po_none (po_some (pv 6))) (pe_lst (pa_cons (pe_ix ix_list (pv 5) (pv 6) (fun _ _ => rfl)) pa_nil))) (pe_slice sl_list (pv 5) (po_some (pv 6)) po_none)))) pss_nil)
      (pss_cons (ps_if (pt_cmpR op_eq (pe_ix ix_list (pv 1) pe_int (fun _ _ => rfl)) pe_int (nomark _)) (pss_cons (ps_set (i := 12) sc__law_edited.nd rfl (Or.inl rfl) (pe_ix ix_list (pv 5) (pv 6) (fun _ _ => rfl)))
      (pss_cons (ps_asg (pe_ix ix_list (pv 5) (pv 7) (fun _ _ => rfl)) (pg_sub (pv 5) (pv 6) set_list))
      (pss_one (ps_asg (pv 12) (pg_sub (pv 5) (pv 7) set_list))))) pss_nil)
      (pss_cons (ps_if (pt_cmpR op_eq (pe_ix ix_list (pv 1) pe_int (fun _ _ => rfl)) pe_int (nomark _)) (pss_one (ps_set (i := 5) sc__law_edited.nd rfl (Or.inl rfl) (pe_op op_cat (pe_op op_cat (pe_slice sl_list (pv 5) po_none (po_some (pv 6))) (pe_lst (pa_cons (pe_ix ix_list (pv 4) (pe_ix ix_list (pv 1) pe_int (fun _ _ => rfl)) (fun _ _ => rfl)) pa_nil))) (pe_slice sl_list (pv 5) (po_some (pv 6)) po_none)))) pss_nil)
      (pss_cons (ps_if (pt_cmpR op_eq (pe_ix ix_list (pv 1) pe_int (fun _ _ => rfl)) pe_int (nomark _)) (pss_one (ps_asg (pe_join pe_str (pe_op op_cat (pe_op op_cat (pe_slice sl_list (pv 10) po_none (po_some (pv 11))) (pe_lst (pa_cons (pe_ix ix_list (pv 3) (pe_ix ix_list (pv 1) pe_int (fun _ _ => rfl)) (fun _ _ => rfl)) pa_nil))) (pe_slice sl_list (pv 10) (po_some (pe_op op_add (pv 11) pe_int)) po_none))) (pg_sub (pv 5) (pv 6) set_list))) pss_nil)
      (pss_cons (ps_if (pt_cmpR op_eq (pe_ix ix_list (pv 1) pe_int (fun _ _ => rfl)) pe_int (nomark _)) (pss_cons (ps_set (i := 11) sc__law_edited.nd rfl (Or.inl rfl) (pe_op op_mod (pe_callTy call_intI (by rfl) T.f_int (by decide +kernel) (pa_cons (pe_ix ix_list (pv 1) pe_int (fun _ _ => rfl)) pa_nil)) (pe_op op_add (pe_callB call_len_seq (by rfl) T.f_len PySem.boot_len (pa_cons (pv 10) pa_nil)) pe_int)))
      (pss_one (ps_asg (pe_join pe_str (pe_op op_cat (pe_op op_cat (pe_slice sl_list (pv 10) po_none (po_some (pv 11))) (pe_lst (pa_cons (pe_ix ix_list (pv 3) (pe_ix ix_list (pv 1) pe_int (fun _ _ => rfl)) (fun _ _ => rfl)) pa_nil))) (pe_slice sl_list (pv 10) (po_some (pv 11)) po_none))) (pg_sub (pv 5) (pv 6) set_list)))) pss_nil)
      (pss_cons (ps_if (pt_cmpR op_eq (pe_ix ix_list (pv 1) pe_int (fun _ _ => rfl)) pe_int (nomark _)) (pss_one (ps_asg (pe_join pe_str (pe_op op_cat (pe_slice sl_list (pv 10) po_none (po_some (pv 11))) (pe_slice sl_list (pv 10) (po_some (pe_op op_add (pv 11) pe_int)) po_none))) (pg_sub (pv 5) (pv 6) set_list))) pss_nil)
      (pss_cons (ps_if (pt_cmpR op_gt (pe_ix ix_list (pv 1) pe_int (fun _ _ => rfl)) pe_int (nomark _)) (pss_one (ps_set (i := 5) sc__law_edited.nd rfl (Or.inl rfl) (pe_cal c__law_aimed hr (pa_cons (pv 5) (pa_cons (pe_ix ix_list (pe_lst (pa_cons pe_int (pa_cons pe_int (pa_cons pe_int (pa_cons pe_int (pa_cons pe_int (pa_cons pe_int (pa_cons pe_int (pa_cons pe_int (pa_cons pe_int pa_nil)))))))))) (pe_op op_sub (pe_ix ix_list (pv 1) pe_int (fun _ _ => rfl)) pe_int) (fun _ _ => rfl)) (pa_cons (pe_ix ix_list (pv 1) pe_int (fun _ _ => rfl)) (pa_cons (pe_ix ix_list (pv 1) pe_int (fun _ _ => rfl)) (pa_cons (pe_ix ix_list (pv 1) pe_int (fun _ _ => rfl)) pa_nil)))))))) pss_nil)
      (pss_one (ps_ret (pe_join pe_str (pv 5))))))))))))))))))))))))))))))))

theorem sc__law_row : FnScope N__law_row ["_law_words_here"] (defScope (top 53)) := ⟨rfl, rfl, rfl, by decide +kernel, rfl, by decide +kernel, by decide +kernel⟩
theorem ok__law_row {P : Program} {w : World} {K : Frag} {mg : Str → Option Value} {base : Heap} {A : Ad} {f : Addr} {fd : FuncData} (F : Fun K "_law_row" "_law_row" (top 53) f fd) (T : Txt K mg w A)
    (c__law_whole : Cal P w K mg base CX0 1 "_law_whole" ["_law_value"] (sp__law_whole A K))
    (len : ∀ vs H Q E, sp__law_row A K vs H Q E → vs.length = 1)
    (pure : ∀ vs H Q E, sp__law_row A K vs H Q E → t__law_row A K w { nx := fun _ H' => Q .non H', rt := Q } (start N__law_row vs) H) : FnOk P w K mg base (CX0) 2 f fd ["_law_words_here"] (sp__law_row A K) := by
  refine F.ok sc__law_row (fun vs H Q E h => len vs H Q E h) (fun cdv Ar outer s H vs Q E hr h => ⟨t__law_row A K w, ?_, pure vs H Q E h⟩)
  exact (pss_one (ps_ret (pe_and (pe_callB call_isi (by rfl) T.f_isinstance (by decide +kernel) (pa_cons (pv 0) (pa_cons (pe_bltn (v := .ty "tuple") (by rfl) T.f_tuple (by decide +kernel) rfl) pa_nil))) (pe_one (pe_cmpR op_eq (pe_callB call_len_seq (by rfl) T.f_len PySem.boot_len (pa_cons (pe_lc (own := [("_law_word_here", 1)]) (g := (gName 1)) (tt := (tNot (tB (tCall (sp__law_whole A K) [] E0 (tCons (tVar 1) tNil))))) rfl sc__law_row.nd (pi_tup (pv 0)) (blkOk_by (own := [("_law_word_here", 1)]) (N := N__law_row) (sc := defScope (top 53)) (by decide +kernel)) (fun _ _ _ _ _ => (pg_name (i := 1) sc__law_row.nd rfl (Or.inl rfl))) (fun _ _ _ _ _ => pts_one (pt_not (pt_val (pe_cal c__law_whole hr (pa_cons (pv 1) pa_nil))))) (fun _ _ _ _ _ => (pv 1))) pa_nil)) pe_int (nomark _))))))

theorem sc_line_text : FnScope N_line_text ["first", "words"] (defScope (top 28)) := ⟨rfl, rfl, rfl, by decide +kernel, rfl, by decide +kernel, by decide +kernel⟩
theorem ok_line_text {P : Program} {w : World} {K : Frag} {mg : Str → Option Value} {base : Heap} {A : Ad} {f : Addr} {fd : FuncData} (F : Fun K "line_text" "line_text" (top 28) f fd) (T : Txt K mg w A)
    (c_word_text : Cal P w K mg base CX0 2 "word_text" ["word"] (sp_word_text A K))
    (len : ∀ vs H Q E, sp_line_text A K vs H Q E → vs.length = 2)
    (pure : ∀ vs H Q E, sp_line_text A K vs H Q E → t_line_text A K w { nx := fun _ H' => Q .non H', rt := Q } (start N_line_text vs) H) : FnOk P w K mg base (CX0) 3 f fd ["first", "words"] (sp_line_text A K) := by
  refine F.ok sc_line_text (fun vs H Q E h => len vs H Q E h) (fun cdv Ar outer s H vs Q E hr h => ⟨t_line_text A K w, ?_, pure vs H Q E h⟩)
  exact (pss_one (ps_ret (pe_op op_add_str (pe_join pe_str (pe_op op_cat (pe_lst (pa_cons (pv 0) pa_nil)) (pe_lc (own := [("word", 2)]) (g := (gName 2)) (tt := tYes) rfl sc_line_text.nd (pi_tup (pv 1)) (blkOk_by (own := [("word", 2)]) (N := N_line_text) (sc := defScope (top 28)) (by decide +kernel)) (fun _ _ _ _ _ => (pg_name (i := 2) sc_line_text.nd rfl (Or.inl rfl))) (fun _ _ _ _ _ => pts_nil) (fun _ _ _ _ _ => (pe_cal c_word_text hr (pa_cons (pv 2) pa_nil)))))) pe_str)))

theorem sc_word_of : FnScope N_word_of ["text"] (defScope (top 30)) := ⟨rfl, rfl, rfl, by decide +kernel, rfl, by decide +kernel, by decide +kernel⟩
theorem ok_word_of {P : Program} {w : World} {K : Frag} {mg : Str → Option Value} {base : Heap} {A : Ad} {f : Addr} {fd : FuncData} (F : Fun K "word_of" "word_of" (top 30) f fd) (T : Txt K mg w A)
    (c_integer_between : Cal P w K mg base CX0 2 "integer_between" ["text", "least", "most"] (sp_integer_between A K))
    (c_reference_word : Cal P w K mg base CX0 1 "reference_word" ["address"] (sp_reference_word A K))
    (c_number_word : Cal P w K mg base CX0 2 "number_word" ["n"] (sp_number_word A K))
    (len : ∀ vs H Q E, sp_word_of A K vs H Q E → vs.length = 1)
    (pure : ∀ vs H Q E, sp_word_of A K vs H Q E → t_word_of A K w { nx := fun _ H' => Q .non H', rt := Q } (start N_word_of vs) H) : FnOk P w K mg base (CX0) 3 f fd ["text"] (sp_word_of A K) := by
  refine F.ok sc_word_of (fun vs H Q E h => len vs H Q E h) (fun cdv Ar outer s H vs Q E hr h => ⟨t_word_of A K w, ?_, pure vs H Q E h⟩)
  exact (pss_cons (ps_if (pt_cmpR op_eq (pv 0) pe_str (nomark _)) (pss_one (ps_ret (T.g_NIL))) pss_nil)
      (pss_cons (ps_if (pt_cmpR op_eq (pe_slice sl_str (pv 0) po_none (po_some pe_int)) pe_str (nomark _)) (pss_cons (ps_set (i := 1) sc_word_of.nd rfl (Or.inl rfl) (pe_cal c_integer_between hr (pa_cons (pe_slice sl_str (pv 0) (po_some pe_int) po_none) (pa_cons pe_int (pa_cons (T.g_LAST_OBJECT) pa_nil)))))
      (pss_cons (ps_if (pt_cmpR op_isN (pv 1) pe_non (nomark _)) (pss_one (ps_ret pe_non)) pss_nil)
      (pss_one (ps_ret (pe_cal c_reference_word hr (pa_cons (pe_op op_add (pv 1) pe_int) pa_nil)))))) pss_nil)
      (pss_cons (ps_set (i := 1) sc_word_of.nd rfl (Or.inl rfl) (pe_cal c_integer_between hr (pa_cons (pv 0) (pa_cons (T.g_MIN_NUMBER) (pa_cons (T.g_MAX_NUMBER) pa_nil)))))
      (pss_cons (ps_if (pt_cmpR op_isN (pv 1) pe_non (nomark _)) (pss_one (ps_ret pe_non)) pss_nil)
      (pss_one (ps_ret (pe_cal c_number_word hr (pa_cons (pv 1) pa_nil))))))))

theorem sc_frame_content : FnScope N_frame_content ["texts"] (defScope (top 32)) := ⟨rfl, rfl, rfl, by decide +kernel, rfl, by decide +kernel, by decide +kernel⟩
theorem ok_frame_content {P : Program} {w : World} {K : Frag} {mg : Str → Option Value} {base : Heap} {A : Ad} {f : Addr} {fd : FuncData} (F : Fun K "frame_content" "frame_content" (top 32) f fd) (T : Txt K mg w A)
    (c_is_name : Cal P w K mg base CX0 1 "is_name" ["text"] (sp_is_name A K))
    (c_integer_between : Cal P w K mg base CX0 2 "integer_between" ["text", "least", "most"] (sp_integer_between A K))
    (len : ∀ vs H Q E, sp_frame_content A K vs H Q E → vs.length = 1)
    (pure : ∀ vs H Q E, sp_frame_content A K vs H Q E → t_frame_content A K w { nx := fun _ H' => Q .non H', rt := Q } (start N_frame_content vs) H) : FnOk P w K mg base (CX0) 3 f fd ["texts"] (sp_frame_content A K) := by
  refine F.ok sc_frame_content (fun vs H Q E h => len vs H Q E h) (fun cdv Ar outer s H vs Q E hr h => ⟨t_frame_content A K w, ?_, pure vs H Q E h⟩)
  exact (pss_cons (ps_if (PW.pt (pw_or (pt_cmpR op_ne (pe_callB call_len_seq (by rfl) T.f_len PySem.boot_len (pa_cons (pv 0) pa_nil)) pe_int (nomark _)) (pw_or1 (pt_not (pt_val (pe_cal c_is_name hr (pa_cons (pe_ix ix_list (pv 0) pe_int (fun _ _ => rfl)) pa_nil))))))) (pss_one (ps_ret pe_non)) pss_nil)
      (pss_cons (ps_set (i := 1) sc_frame_content.nd rfl (Or.inl rfl) (pe_cal c_integer_between hr (pa_cons (pe_ix ix_list (pv 0) pe_int (fun _ _ => rfl)) (pa_cons pe_int (pa_cons (T.g_LAST_PLACE) pa_nil)))))
      (pss_cons (ps_if (pt_cmpR op_isN (pv 1) pe_non (nomark _)) (pss_one (ps_ret pe_non)) pss_nil)
      (pss_one (ps_ret (pe_tup (pa_cons (pe_ix ix_list (pv 0) pe_int (fun _ _ => rfl)) (pa_cons (pv 1) pa_nil))))))))

theorem sc__law_free : FnScope N__law_free ["_law_script", "_law_at"] (defScope (top 47)) := ⟨rfl, rfl, rfl, by decide +kernel, rfl, by decide +kernel, by decide +kernel⟩
theorem ok__law_free {P : Program} {w : World} {K : Frag} {mg : Str → Option Value} {base : Heap} {A : Ad} {f : Addr} {fd : FuncData} (F : Fun K "_law_free" "_law_free" (top 47) f fd) (T : Txt K mg w A)
    (c__law_cell : Cal P w K mg base CX0 1 "_law_cell" ["_law_script", "_law_k"] (sp__law_cell A K))
    (c__law_digits : Cal P w K mg base CX0 1 "_law_digits" ["_law_cell_here", "_law_sizes"] (sp__law_digits A K))
    (c__law_words : Cal P w K mg base CX0 2 "_law_words" ["_law_cell_here", "_law_many"] (sp__law_words A K))
    (c__law_name : Cal P w K mg base CX0 1 "_law_name" ["_law_row_here"] (sp__law_name A K))
    (len : ∀ vs H Q E, sp__law_free A K vs H Q E → vs.length = 2)
    (pure : ∀ vs H Q E, sp__law_free A K vs H Q E → t__law_free A K w { nx := fun _ H' => Q .non H', rt := Q } (start N__law_free vs) H) : FnOk P w K mg base (CX0) 3 f fd ["_law_script", "_law_at"] (sp__law_free A K) := by
  refine F.ok sc__law_free (fun vs H Q E h => len vs H Q E h) (fun cdv Ar outer s H vs Q E hr h => ⟨t__law_free A K w, ?_, pure vs H Q E h⟩)
  exact (pss_cons (ps_set (i := 2) sc__law_free.nd rfl (Or.inl rfl) (pe_cal c__law_digits hr (pa_cons (pe_cal c__law_cell hr (pa_cons (pv 0) (pa_cons (pv 1) pa_nil))) (pa_cons (pe_lst (pa_cons pe_int (pa_cons pe_int (pa_cons pe_int (pa_cons pe_int (pa_cons pe_int (pa_cons pe_int (pa_cons pe_int (pa_cons pe_int (pa_cons pe_int pa_nil)))))))))) pa_nil))))
      (pss_cons (ps_set (i := 3) sc__law_free.nd rfl (Or.inl rfl) (pe_lst (pa_cons (pe_ix ix_list (pe_lst (pa_cons (pe_ix ix_list (pv 2) pe_int (fun _ _ => rfl)) (pa_cons (pe_ix ix_list (pv 2) pe_int (fun _ _ => rfl)) pa_nil))) (pe_callTy call_intB (by rfl) T.f_int (by decide +kernel) (pa_cons (pe_cmpR op_eq (pe_ix ix_list (pv 2) pe_int (fun _ _ => rfl)) pe_int (nomark _)) pa_nil)) (fun _ _ => rfl)) (pa_cons (pe_ix ix_list (pe_lst (pa_cons (pe_ix ix_list (pv 2) pe_int (fun _ _ => rfl)) (pa_cons (pe_ix ix_list (pv 2) pe_int (fun _ _ => rfl)) pa_nil))) (pe_callTy call_intB (by rfl) T.f_int (by decide +kernel) (pa_cons (pe_cmpR op_eq (pe_ix ix_list (pv 2) pe_int (fun _ _ => rfl)) pe_int (nomark _)) pa_nil)) (fun _ _ => rfl)) pa_nil))))
      (pss_cons (ps_set (i := 3) sc__law_free.nd rfl (Or.inl rfl) (pe_op op_cat (pv 3) (pe_lst (pa_cons (pe_ix ix_list (pe_lst (pa_cons (pe_ix ix_list (pv 2) pe_int (fun _ _ => rfl)) (pa_cons pe_int pa_nil))) (pe_callTy call_intB (by rfl) T.f_int (by decide +kernel) (pa_cons (pe_cmpR op_eq (pe_ix ix_list (pv 2) pe_int (fun _ _ => rfl)) pe_int (nomark _)) pa_nil)) (fun _ _ => rfl)) (pa_cons (pe_ix ix_list (pv 2) pe_int (fun _ _ => rfl)) (pa_cons (pe_ix ix_list (pe_lst (pa_cons (pe_ix ix_list (pv 2) pe_int (fun _ _ => rfl)) (pa_cons (pe_ix ix_list (pv 2) pe_int (fun _ _ => rfl)) pa_nil))) (pe_callTy call_intB (by rfl) T.f_int (by decide +kernel) (pa_cons (pe_cmpR op_eq (pe_ix ix_list (pv 2) pe_int (fun _ _ => rfl)) pe_int (nomark _)) pa_nil)) (fun _ _ => rfl)) pa_nil))))))
      (pss_cons (ps_set (i := 4) sc__law_free.nd rfl (Or.inl rfl) (pe_slice sl_list (pe_cal c__law_words hr (pa_cons (pe_cal c__law_cell hr (pa_cons (pv 0) (pa_cons (pe_op op_add (pv 1) pe_int) pa_nil))) (pa_cons pe_int pa_nil))) po_none (po_some (pe_ix ix_list (pv 3) pe_int (fun _ _ => rfl)))))
      (pss_cons (ps_set (i := 5) sc__law_free.nd rfl (Or.inl rfl) (pe_slice sl_list (pe_cal c__law_words hr (pa_cons (pe_cal c__law_cell hr (pa_cons (pv 0) (pa_cons (pe_op op_add (pv 1) pe_int) pa_nil))) (pa_cons pe_int pa_nil))) po_none (po_some (pe_ix ix_list (pv 3) pe_int (fun _ _ => rfl)))))
      (pss_cons (ps_set (i := 6) sc__law_free.nd rfl (Or.inl rfl) (pe_slice sl_list (pe_cal c__law_words hr (pa_cons (pe_cal c__law_cell hr (pa_cons (pv 0) (pa_cons (pe_op op_add (pv 1) pe_int) pa_nil))) (pa_cons pe_int pa_nil))) po_none (po_some (pe_ix ix_list (pv 3) pe_int (fun _ _ => rfl)))))
      (pss_cons (ps_set (i := 7) sc__law_free.nd rfl (Or.inl rfl) (pe_lst pa_nil))
      (pss_cons (ps_for PassesOwn.never rfl (pi_range1 rfl T.f_range (pa_cons (pe_ix ix_list (pv 3) pe_int (fun _ _ => rfl)) pa_nil)) (pg_name (i := 8) sc__law_free.nd rfl (Or.inl rfl))
        (pss_cons (ps_set (i := 10) sc__law_free.nd rfl (Or.inl rfl) (pe_cal c__law_digits hr (pa_cons (pe_cal c__law_cell hr (pa_cons (pv 0) (pa_cons (pe_op op_add (pe_op op_add (pv 1) pe_int) (pe_op op_mod (pe_callTy call_intI (by rfl) T.f_int (by decide +kernel) (pa_cons (pv 8) pa_nil)) pe_int)) pa_nil))) (pa_cons (pe_op op_cat (pe_lst (pa_cons pe_int (pa_cons pe_int (pa_cons pe_int (pa_cons pe_int (pa_cons pe_int pa_nil)))))) (pe_op op_rep (pe_lst (pa_cons pe_int pa_nil)) pe_int)) pa_nil))))
      (pss_cons (ps_set (i := 11) sc__law_free.nd rfl (Or.inl rfl) (pe_cal c__law_words hr (pa_cons (pe_cal c__law_cell hr (pa_cons (pv 0) (pa_cons (pe_op op_add (pe_op op_add (pv 1) pe_int) (pe_op op_mod (pe_callTy call_intI (by rfl) T.f_int (by decide +kernel) (pa_cons (pv 8) pa_nil)) pe_int)) pa_nil))) (pa_cons pe_int pa_nil))))
      (pss_cons (ps_set (i := 12) sc__law_free.nd rfl (Or.inl rfl) (pe_slice sl_list (pv 11) po_none (po_some (pe_ix ix_list (pe_lst (pa_cons pe_int (pa_cons pe_int (pa_cons pe_int (pa_cons pe_int (pa_cons pe_int (pa_cons pe_int (pa_cons pe_int (pa_cons pe_int pa_nil))))))))) (pe_ix ix_list (pv 10) pe_int (fun _ _ => rfl)) (fun _ _ => rfl)))))
      (pss_cons (ps_set (i := 13) sc__law_free.nd rfl (Or.inl rfl) (pe_slice sl_list (pe_op op_cat (pv 11) (pv 11)) (po_some pe_int) (po_some (pe_op op_add pe_int (pe_ix ix_list (pe_lst (pa_cons pe_int (pa_cons pe_int (pa_cons pe_int (pa_cons pe_int (pa_cons pe_int (pa_cons pe_int (pa_cons pe_int pa_nil)))))))) (pe_ix ix_list (pv 10) pe_int (fun _ _ => rfl)) (fun _ _ => rfl))))))
      (pss_one (ps_expr (pe_bm PySem.F.plainAttrs_list PySem.F.slot_list_append PySem.F.type_list_append mt_append (pv 7) (pa_cons (pe_tup (pa_cons (pe_cal c__law_name hr (pa_cons (pe_slice sl_list (pv 10) (po_some pe_int) po_none) pa_nil)) (pa_cons (pe_op op_mod (pe_callTy call_intI (by rfl) T.f_int (by decide +kernel) (pa_cons (pe_op op_add (pe_ix ix_list (pv 10) pe_int (fun _ _ => rfl)) (pe_op op_fdiv (pv 8) pe_int)) pa_nil)) pe_int) (pa_cons (pe_callTy call_tuple_of (by rfl) T.f_tuple (by decide +kernel) (pa_cons (pv 12) pa_nil)) (pa_cons (pe_callTy call_tuple_of (by rfl) T.f_tuple (by decide +kernel) (pa_cons (pv 13) pa_nil)) pa_nil))))) pa_nil)))))))))
      (pss_cons (ps_set (i := 9) sc__law_free.nd rfl (Or.inl rfl) (pe_lst pa_nil))
      (pss_cons (ps_for PassesOwn.never rfl (pi_range1 rfl T.f_range (pa_cons (pe_ix ix_list (pv 3) pe_int (fun _ _ => rfl)) pa_nil)) (pg_name (i := 8) sc__law_free.nd rfl (Or.inl rfl))
        (pss_cons (ps_set (i := 10) sc__law_free.nd rfl (Or.inl rfl) (pe_cal c__law_digits hr (pa_cons (pe_cal c__law_cell hr (pa_cons (pv 0) (pa_cons (pe_op op_add (pe_op op_add (pv 1) pe_int) (pe_op op_mod (pe_callTy call_intI (by rfl) T.f_int (by decide +kernel) (pa_cons (pv 8) pa_nil)) pe_int)) pa_nil))) (pa_cons (pe_op op_cat (pe_lst (pa_cons pe_int (pa_cons pe_int (pa_cons pe_int pa_nil)))) (pe_op op_rep (pe_lst (pa_cons pe_int pa_nil)) pe_int)) pa_nil))))
      (pss_cons (ps_set (i := 11) sc__law_free.nd rfl (Or.inl rfl) (pe_slice sl_list (pe_cal c__law_words hr (pa_cons (pe_cal c__law_cell hr (pa_cons (pv 0) (pa_cons (pe_op op_add (pe_op op_add (pv 1) pe_int) (pe_op op_mod (pe_callTy call_intI (by rfl) T.f_int (by decide +kernel) (pa_cons (pv 8) pa_nil)) pe_int)) pa_nil))) (pa_cons pe_int pa_nil))) po_none (po_some (pe_ix ix_list (pe_lst (pa_cons pe_int (pa_cons pe_int (pa_cons pe_int (pa_cons pe_int (pa_cons pe_int (pa_cons pe_int (pa_cons pe_int (pa_cons pe_int (pa_cons pe_int pa_nil)))))))))) (pe_ix ix_list (pv 10) pe_int (fun _ _ => rfl)) (fun _ _ => rfl)))))
      (pss_cons (ps_if (PW.pt (pw_and (pt_cmpR op_eq (pv 8) pe_int (nomark _)) (pw_and1 (pt_cmpR op_eq (pe_ix ix_list (pv 2) pe_int (fun _ _ => rfl)) pe_int (nomark _))))) (pss_one (ps_set (i := 11) sc__law_free.nd rfl (Or.inl rfl) (pe_slice sl_list (pe_op op_rep (pv 11) pe_int) po_none (po_some pe_int)))) pss_nil)
      (pss_one (ps_expr (pe_bm PySem.F.plainAttrs_list PySem.F.slot_list_append PySem.F.type_list_append mt_append (pv 9) (pa_cons (pe_tup (pa_cons (pe_cal c__law_name hr (pa_cons (pe_slice sl_list (pv 10) (po_some pe_int) po_none) pa_nil)) (pa_cons (pe_callTy call_tuple_of (by rfl) T.f_tuple (by decide +kernel) (pa_cons (pv 11) pa_nil)) pa_nil))) pa_nil))))))))
      (pss_one (ps_ret (pe_tup (pa_cons (pe_callTy call_tuple_of (by rfl) T.f_tuple (by decide +kernel) (pa_cons (pv 4) pa_nil)) (pa_cons (pe_callTy call_tuple_of (by rfl) T.f_tuple (by decide +kernel) (pa_cons (pv 7) pa_nil)) (pa_cons (pe_callTy call_tuple_of (by rfl) T.f_tuple (by decide +kernel) (pa_cons (pv 5) pa_nil)) (pa_cons (pe_callTy call_tuple_of (by rfl) T.f_tuple (by decide +kernel) (pa_cons (pv 6) pa_nil)) (pa_cons (pe_callTy call_tuple_of (by rfl) T.f_tuple (by decide +kernel) (pa_cons (pv 9) pa_nil)) pa_nil))))))))))))))))))

theorem sc__law_text : FnScope N__law_text ["_law_data"] (defScope (top 50)) := ⟨rfl, rfl, rfl, by decide +kernel, rfl, by decide +kernel, by decide +kernel⟩
theorem ok__law_text {P : Program} {w : World} {K : Frag} {mg : Str → Option Value} {base : Heap} {A : Ad} {f : Addr} {fd : FuncData} (F : Fun K "_law_text" "_law_text" (top 50) f fd) (T : Txt K mg w A)
    (c__law_line : Cal P w K mg base CX0 2 "_law_line" ["_law_first", "_law_words_here"] (sp__law_line A K))
    (len : ∀ vs H Q E, sp__law_text A K vs H Q E → vs.length = 1)
    (pure : ∀ vs H Q E, sp__law_text A K vs H Q E → t__law_text A K w { nx := fun _ H' => Q .non H', rt := Q } (start N__law_text vs) H) : FnOk P w K mg base (CX0) 3 f fd ["_law_data"] (sp__law_text A K) := by
  refine F.ok sc__law_text (fun vs H Q E h => len vs H Q E h) (fun cdv Ar outer s H vs Q E hr h => ⟨t__law_text A K w, ?_, pure vs H Q E h⟩)
  exact (pss_cons (ps_setLc (i := 1) (own := [("_law_word_here", 4)]) (g := (gName 4)) (tt := tYes) rfl sc__law_text.nd rfl rfl (sw_true rfl rfl rfl (by decide +kernel)) (pi_tup (pe_ix ix_tup (pv 0) pe_int (fun _ _ => rfl))) (blkOk_by (own := [("_law_word_here", 4)]) (N := N__law_text) (sc := defScope (top 50)) (by decide +kernel)) (fun _ _ _ _ _ => (pg_name (i := 4) sc__law_text.nd rfl (Or.inl rfl))) (fun _ _ _ _ _ => pts_nil) (fun _ _ _ _ _ => (pe_cal c__law_line hr (pa_cons pe_str (pa_cons (pe_lst (pa_cons (pv 4) pa_nil)) pa_nil)))))
      (pss_cons (ps_for PassesOwn.never rfl (pi_tup (pe_ix ix_tup (pv 0) pe_int (fun _ _ => rfl))) (pg_name (i := 2) sc__law_text.nd rfl (Or.inl rfl))
        (pss_cons (ps_expr (pe_bm PySem.F.plainAttrs_list PySem.F.slot_list_append PySem.F.type_list_append mt_append (pv 1) (pa_cons (pe_op op_add_str (pe_op op_add_str (pe_op op_add_str (pe_op op_add_str pe_str (pe_ix ix_tup (pv 2) pe_int (fun _ _ => rfl))) pe_str) (pe_callTy call_str_int (by rfl) T.f_str (by decide +kernel) (pa_cons (pe_ix ix_tup (pv 2) pe_int (fun _ _ => rfl)) pa_nil))) pe_str) pa_nil)))
      (pss_cons (ps_expr (pe_bm PySem.F.plainAttrs_list PySem.F.slot_list_append PySem.F.type_list_append mt_append (pv 1) (pa_cons (pe_cal c__law_line hr (pa_cons pe_str (pa_cons (pe_ix ix_tup (pv 2) pe_int (fun _ _ => rfl)) pa_nil))) pa_nil)))
      (pss_one (ps_expr (pe_bm PySem.F.plainAttrs_list PySem.F.slot_list_append PySem.F.type_list_append mt_append (pv 1) (pa_cons (pe_cal c__law_line hr (pa_cons pe_str (pa_cons (pe_ix ix_tup (pv 2) pe_int (fun _ _ => rfl)) pa_nil))) pa_nil)))))))
      (pss_cons (ps_expr (pe_bm PySem.F.plainAttrs_list PySem.F.slot_list_append PySem.F.type_list_append mt_append (pv 1) (pa_cons (pe_cal c__law_line hr (pa_cons pe_str (pa_cons (pe_ix ix_tup (pv 0) pe_int (fun _ _ => rfl)) pa_nil))) pa_nil)))
      (pss_cons (ps_expr (pe_bm PySem.F.plainAttrs_list PySem.F.slot_list_append PySem.F.type_list_append mt_append (pv 1) (pa_cons (pe_cal c__law_line hr (pa_cons pe_str (pa_cons (pe_ix ix_tup (pv 0) pe_int (fun _ _ => rfl)) pa_nil))) pa_nil)))
      (pss_cons (ps_for PassesOwn.never rfl (pi_tup (pe_ix ix_tup (pv 0) pe_int (fun _ _ => rfl))) (pg_name (i := 3) sc__law_text.nd rfl (Or.inl rfl))
        (pss_one (ps_expr (pe_bm PySem.F.plainAttrs_list PySem.F.slot_list_append PySem.F.type_list_append mt_append (pv 1) (pa_cons (pe_cal c__law_line hr (pa_cons (pe_op op_add_str pe_str (pe_ix ix_tup (pv 3) pe_int (fun _ _ => rfl))) (pa_cons (pe_ix ix_tup (pv 3) pe_int (fun _ _ => rfl)) pa_nil))) pa_nil)))))
      (pss_one (ps_ret (pe_join pe_str (pv 1)))))))))

theorem sc__law_sound : FnScope N__law_sound ["_law_picture"] (defScope (top 54)) := ⟨rfl, rfl, rfl, by decide +kernel, rfl, by decide +kernel, by decide +kernel⟩
theorem ok__law_sound {P : Program} {w : World} {K : Frag} {mg : Str → Option Value} {base : Heap} {A : Ad} {f : Addr} {fd : FuncData} (F : Fun K "_law_sound" "_law_sound" (top 54) f fd) (T : Txt K mg w A)
    (c__law_row : Cal P w K mg base CX0 2 "_law_row" ["_law_words_here"] (sp__law_row A K))
    (c__law_whole : Cal P w K mg base CX0 1 "_law_whole" ["_law_value"] (sp__law_whole A K))
    (len : ∀ vs H Q E, sp__law_sound A K vs H Q E → vs.length = 1)
    (pure : ∀ vs H Q E, sp__law_sound A K vs H Q E → t__law_sound A K w { nx := fun _ H' => Q .non H', rt := Q } (start N__law_sound vs) H) : FnOk P w K mg base (CX0) 3 f fd ["_law_picture"] (sp__law_sound A K) := by
  refine F.ok sc__law_sound (fun vs H Q E h => len vs H Q E h) (fun cdv Ar outer s H vs Q E hr h => ⟨t__law_sound A K w, ?_, pure vs H Q E h⟩)
  exact (pss_cons (ps_if (PW.pt (pw_or (pt_not (pt_val (pe_callB call_isi (by rfl) T.f_isinstance (by decide +kernel) (pa_cons (pv 0) (pa_cons (T.g_Picture) pa_nil))))) (pw_or (pt_not (pt_val (pe_cal c__law_row hr (pa_cons (pe_fld (pv 0) rfl) pa_nil)))) (pw_or1 (pt_not (pt_val (pe_cal c__law_row hr (pa_cons (pe_fld (pv 0) rfl) pa_nil)))))))) (pss_one (ps_ret pe_bl)) pss_nil)
      (pss_cons (ps_if (PW.pt (pw_or (pt_not (pt_val (pe_cal c__law_row hr (pa_cons (pe_fld (pv 0) rfl) pa_nil)))) (pw_or (pt_not (pt_val (pe_callB call_isi (by rfl) T.f_isinstance (by decide +kernel) (pa_cons (pe_fld (pv 0) rfl) (pa_cons (pe_bltn (v := .ty "tuple") (by rfl) T.f_tuple (by decide +kernel) rfl) pa_nil))))) (pw_or1 (pt_not (pt_val (pe_callB call_isi (by rfl) T.f_isinstance (by decide +kernel) (pa_cons (pe_fld (pv 0) rfl) (pa_cons (pe_bltn (v := .ty "tuple") (by rfl) T.f_tuple (by decide +kernel) rfl) pa_nil))))))))) (pss_one (ps_ret pe_bl)) pss_nil)
      (pss_cons (ps_for PassesOwn.never rfl (pi_tup (pe_fld (pv 0) rfl)) (pg_name (i := 1) sc__law_sound.nd rfl (Or.inl rfl))
        (pss_cons (ps_if (PW.pt (pw_or (pt_not (pt_val (pe_callB call_isi (by rfl) T.f_isinstance (by decide +kernel) (pa_cons (pv 1) (pa_cons (pe_bltn (v := .ty "tuple") (by rfl) T.f_tuple (by decide +kernel) rfl) pa_nil))))) (pw_or (pt_cmpR op_ne (pe_callB call_len_seq (by rfl) T.f_len PySem.boot_len (pa_cons (pv 1) pa_nil)) pe_int (nomark _)) (pw_or (pt_not (pt_val (pe_callB call_isi (by rfl) T.f_isinstance (by decide +kernel) (pa_cons (pe_ix ix_tup (pv 1) pe_int (fun _ _ => rfl)) (pa_cons (pe_bltn (v := .ty "str") (by rfl) T.f_str (by decide +kernel) rfl) pa_nil))))) (pw_or1 (pt_not (pt_val (pe_cal c__law_whole hr (pa_cons (pe_ix ix_tup (pv 1) pe_int (fun _ _ => rfl)) pa_nil))))))))) (pss_one (ps_ret pe_bl)) pss_nil)
      (pss_one (ps_if (PW.pt (pw_or (pt_not (pt_val (pe_cal c__law_row hr (pa_cons (pe_ix ix_tup (pv 1) pe_int (fun _ _ => rfl)) pa_nil)))) (pw_or1 (pt_not (pt_val (pe_cal c__law_row hr (pa_cons (pe_ix ix_tup (pv 1) pe_int (fun _ _ => rfl)) pa_nil))))))) (pss_one (ps_ret pe_bl)) pss_nil))))
      (pss_cons (ps_for PassesOwn.never rfl (pi_tup (pe_fld (pv 0) rfl)) (pg_name (i := 2) sc__law_sound.nd rfl (Or.inl rfl))
        (pss_one (ps_if (PW.pt (pw_or (pt_not (pt_val (pe_callB call_isi (by rfl) T.f_isinstance (by decide +kernel) (pa_cons (pv 2) (pa_cons (pe_bltn (v := .ty "tuple") (by rfl) T.f_tuple (by decide +kernel) rfl) pa_nil))))) (pw_or (pt_cmpR op_ne (pe_callB call_len_seq (by rfl) T.f_len PySem.boot_len (pa_cons (pv 2) pa_nil)) pe_int (nomark _)) (pw_or (pt_not (pt_val (pe_callB call_isi (by rfl) T.f_isinstance (by decide +kernel) (pa_cons (pe_ix ix_tup (pv 2) pe_int (fun _ _ => rfl)) (pa_cons (pe_bltn (v := .ty "str") (by rfl) T.f_str (by decide +kernel) rfl) pa_nil))))) (pw_or1 (pt_not (pt_val (pe_cal c__law_row hr (pa_cons (pe_ix ix_tup (pv 2) pe_int (fun _ _ => rfl)) pa_nil))))))))) (pss_one (ps_ret pe_bl)) pss_nil)))
      (pss_one (ps_ret pe_bl))))))

theorem sc_words_of : FnScope N_words_of ["texts"] (defScope (top 31)) := ⟨rfl, rfl, rfl, by decide +kernel, rfl, by decide +kernel, by decide +kernel⟩
theorem ok_words_of {P : Program} {w : World} {K : Frag} {mg : Str → Option Value} {base : Heap} {A : Ad} {f : Addr} {fd : FuncData} (F : Fun K "words_of" "words_of" (top 31) f fd) (T : Txt K mg w A)
    (c_word_of : Cal P w K mg base CX0 3 "word_of" ["text"] (sp_word_of A K))
    (len : ∀ vs H Q E, sp_words_of A K vs H Q E → vs.length = 1)
    (pure : ∀ vs H Q E, sp_words_of A K vs H Q E → t_words_of A K w { nx := fun _ H' => Q .non H', rt := Q } (start N_words_of vs) H) : FnOk P w K mg base (CX0) 4 f fd ["texts"] (sp_words_of A K) := by
  refine F.ok sc_words_of (fun vs H Q E h => len vs H Q E h) (fun cdv Ar outer s H vs Q E hr h => ⟨t_words_of A K w, ?_, pure vs H Q E h⟩)
  exact (pss_cons (ps_setLc (i := 1) (own := [("text", 2)]) (g := (gName 2)) (tt := tYes) rfl sc_words_of.nd rfl rfl (sw_true rfl rfl rfl (by decide +kernel)) (pi_list (pv 0)) (blkOk_by (own := [("text", 2)]) (N := N_words_of) (sc := defScope (top 31)) (by decide +kernel)) (fun _ _ _ _ _ => (pg_name (i := 2) sc_words_of.nd rfl (Or.inl rfl))) (fun _ _ _ _ _ => pts_nil) (fun _ _ _ _ _ => (pe_cal c_word_of hr (pa_cons (pv 2) pa_nil))))
      (pss_cons (ps_if (pt_cmpR op_in_seq pe_non (pv 1) (by rfl)) (pss_one (ps_ret pe_non)) pss_nil)
      (pss_one (ps_ret (pe_callTy call_tuple_of (by rfl) T.f_tuple (by decide +kernel) (pa_cons (pv 1) pa_nil))))))

theorem sc_write_image : FnScope N_write_image ["picture"] (defScope (top 37)) := ⟨rfl, rfl, rfl, by decide +kernel, rfl, by decide +kernel, by decide +kernel⟩
theorem ok_write_image {P : Program} {w : World} {K : Frag} {mg : Str → Option Value} {base : Heap} {A : Ad} {f : Addr} {fd : FuncData} (F : Fun K "write_image" "write_image" (top 37) f fd) (T : Txt K mg w A)
    (c_line_text : Cal P w K mg base CX0 3 "line_text" ["first", "words"] (sp_line_text A K))
    (len : ∀ vs H Q E, sp_write_image A K vs H Q E → vs.length = 1)
    (pure : ∀ vs H Q E, sp_write_image A K vs H Q E → t_write_image A K w { nx := fun _ H' => Q .non H', rt := Q } (start N_write_image vs) H) : FnOk P w K mg base (CX0) 4 f fd ["picture"] (sp_write_image A K) := by
  refine F.ok sc_write_image (fun vs H Q E h => len vs H Q E h) (fun cdv Ar outer s H vs Q E hr h => ⟨t_write_image A K w, ?_, pure vs H Q E h⟩)
  exact (pss_cons (ps_setLc (i := 1) (own := [("word", 8)]) (g := (gName 8)) (tt := tYes) rfl sc_write_image.nd rfl rfl (sw_true rfl rfl rfl (by decide +kernel)) (pi_tup (pe_fld (pv 0) rfl)) (blkOk_by (own := [("word", 8)]) (N := N_write_image) (sc := defScope (top 37)) (by decide +kernel)) (fun _ _ _ _ _ => (pg_name (i := 8) sc_write_image.nd rfl (Or.inl rfl))) (fun _ _ _ _ _ => pts_nil) (fun _ _ _ _ _ => (pe_cal c_line_text hr (pa_cons pe_str (pa_cons (pe_tup (pa_cons (pv 8) pa_nil)) pa_nil)))))
      (pss_cons (ps_for PassesOwn.never rfl (pi_tup (pe_fld (pv 0) rfl)) (pg_tup rfl (pgs_cons (pg_name (i := 2) sc_write_image.nd rfl (Or.inl rfl)) (pgs_cons (pg_name (i := 3) sc_write_image.nd rfl (Or.inl rfl)) (pgs_cons (pg_name (i := 4) sc_write_image.nd rfl (Or.inl rfl)) (pgs_cons (pg_name (i := 5) sc_write_image.nd rfl (Or.inl rfl)) pgs_nil)))))
        (pss_cons (ps_expr (pe_bm PySem.F.plainAttrs_list PySem.F.slot_list_append PySem.F.type_list_append mt_append (pv 1) (pa_cons (pe_op op_add_str (pe_op op_add_str (pe_op op_add_str (pe_op op_add_str pe_str (pv 2)) pe_str) (pe_callTy call_str_int (by rfl) T.f_str (by decide +kernel) (pa_cons (pv 3) pa_nil))) pe_str) pa_nil)))
      (pss_cons (ps_expr (pe_bm PySem.F.plainAttrs_list PySem.F.slot_list_append PySem.F.type_list_append mt_append (pv 1) (pa_cons (pe_cal c_line_text hr (pa_cons pe_str (pa_cons (pv 4) pa_nil))) pa_nil)))
      (pss_one (ps_expr (pe_bm PySem.F.plainAttrs_list PySem.F.slot_list_append PySem.F.type_list_append mt_append (pv 1) (pa_cons (pe_cal c_line_text hr (pa_cons pe_str (pa_cons (pv 5) pa_nil))) pa_nil)))))))
      (pss_cons (ps_expr (pe_bm PySem.F.plainAttrs_list PySem.F.slot_list_append PySem.F.type_list_append mt_append (pv 1) (pa_cons (pe_cal c_line_text hr (pa_cons pe_str (pa_cons (pe_fld (pv 0) rfl) pa_nil))) pa_nil)))
      (pss_cons (ps_expr (pe_bm PySem.F.plainAttrs_list PySem.F.slot_list_append PySem.F.type_list_append mt_append (pv 1) (pa_cons (pe_cal c_line_text hr (pa_cons pe_str (pa_cons (pe_fld (pv 0) rfl) pa_nil))) pa_nil)))
      (pss_cons (ps_for PassesOwn.never rfl (pi_tup (pe_fld (pv 0) rfl)) (pg_tup rfl (pgs_cons (pg_name (i := 6) sc_write_image.nd rfl (Or.inl rfl)) (pgs_cons (pg_name (i := 7) sc_write_image.nd rfl (Or.inl rfl)) pgs_nil)))
        (pss_one (ps_expr (pe_bm PySem.F.plainAttrs_list PySem.F.slot_list_append PySem.F.type_list_append mt_append (pv 1) (pa_cons (pe_cal c_line_text hr (pa_cons (pe_op op_add_str pe_str (pv 6)) (pa_cons (pv 7) pa_nil))) pa_nil)))))
      (pss_one (ps_ret (pe_join pe_str (pv 1)))))))))

theorem sc_object_content : FnScope N_object_content ["texts"] (defScope (top 33)) := ⟨rfl, rfl, rfl, by decide +kernel, rfl, by decide +kernel, by decide +kernel⟩
theorem ok_object_content {P : Program} {w : World} {K : Frag} {mg : Str → Option Value} {base : Heap} {A : Ad} {f : Addr} {fd : FuncData} (F : Fun K "object_content" "object_content" (top 33) f fd) (T : Txt K mg w A)
    (c_is_name : Cal P w K mg base CX0 1 "is_name" ["text"] (sp_is_name A K))
    (c_words_of : Cal P w K mg base CX0 4 "words_of" ["texts"] (sp_words_of A K))
    (len : ∀ vs H Q E, sp_object_content A K vs H Q E → vs.length = 1)
    (pure : ∀ vs H Q E, sp_object_content A K vs H Q E → t_object_content A K w { nx := fun _ H' => Q .non H', rt := Q } (start N_object_content vs) H) : FnOk P w K mg base (CX0) 5 f fd ["texts"] (sp_object_content A K) := by
  refine F.ok sc_object_content (fun vs H Q E h => len vs H Q E h) (fun cdv Ar outer s H vs Q E hr h => ⟨t_object_content A K w, ?_, pure vs H Q E h⟩)
  exact (pss_cons (ps_if (PW.pt (pw_or (pt_cmpR op_lt (pe_callB call_len_seq (by rfl) T.f_len PySem.boot_len (pa_cons (pv 0) pa_nil)) pe_int (nomark _)) (pw_or1 (pt_not (pt_val (pe_cal c_is_name hr (pa_cons (pe_ix ix_list (pv 0) pe_int (fun _ _ => rfl)) pa_nil))))))) (pss_one (ps_ret pe_non)) pss_nil)
      (pss_cons (ps_set (i := 1) sc_object_content.nd rfl (Or.inl rfl) (pe_cal c_words_of hr (pa_cons (pe_slice sl_list (pv 0) (po_some pe_int) po_none) pa_nil)))
      (pss_cons (ps_if (pt_cmpR op_isN (pv 1) pe_non (nomark _)) (pss_one (ps_ret pe_non)) pss_nil)
      (pss_one (ps_ret (pe_tup (pa_cons (pe_ix ix_list (pv 0) pe_int (fun _ _ => rfl)) (pa_cons (pv 1) pa_nil))))))))

theorem sc_line_content : FnScope N_line_content ["texts"] (defScope (top 34)) := ⟨rfl, rfl, rfl, by decide +kernel, rfl, by decide +kernel, by decide +kernel⟩
theorem ok_line_content {P : Program} {w : World} {K : Frag} {mg : Str → Option Value} {base : Heap} {A : Ad} {f : Addr} {fd : FuncData} (F : Fun K "line_content" "line_content" (top 34) f fd) (T : Txt K mg w A)
    (c_frame_content : Cal P w K mg base CX0 3 "frame_content" ["texts"] (sp_frame_content A K))
    (c_object_content : Cal P w K mg base CX0 5 "object_content" ["texts"] (sp_object_content A K))
    (c_words_of : Cal P w K mg base CX0 4 "words_of" ["texts"] (sp_words_of A K))
    (len : ∀ vs H Q E, sp_line_content A K vs H Q E → vs.length = 1)
    (pure : ∀ vs H Q E, sp_line_content A K vs H Q E → t_line_content A K w { nx := fun _ H' => Q .non H', rt := Q } (start N_line_content vs) H) : FnOk P w K mg base (CX0) 6 f fd ["texts"] (sp_line_content A K) := by
  refine F.ok sc_line_content (fun vs H Q E h => len vs H Q E h) (fun cdv Ar outer s H vs Q E hr h => ⟨t_line_content A K w, ?_, pure vs H Q E h⟩)
  exact (pss_cons (ps_if (pt_cmpR op_eq (pe_ix ix_list (pv 0) pe_int (fun _ _ => rfl)) pe_str (nomark _)) (pss_one (ps_ret (pe_cal c_frame_content hr (pa_cons (pv 0) pa_nil)))) pss_nil)
      (pss_cons (ps_if (pt_cmpR op_eq (pe_ix ix_list (pv 0) pe_int (fun _ _ => rfl)) pe_str (nomark _)) (pss_one (ps_ret (pe_cal c_object_content hr (pa_cons (pv 0) pa_nil)))) pss_nil)
      (pss_cons (ps_if (PW.pt (pw_and (pt_cmpR op_eq (pe_ix ix_list (pv 0) pe_int (fun _ _ => rfl)) pe_str (nomark _)) (pw_and1 (pt_cmpR op_ne (pe_callB call_len_seq (by rfl) T.f_len PySem.boot_len (pa_cons (pv 0) pa_nil)) pe_int (nomark _))))) (pss_one (ps_ret pe_non)) pss_nil)
      (pss_one (ps_ret (pe_cal c_words_of hr (pa_cons (pe_slice sl_list (pv 0) (po_some pe_int) po_none) pa_nil)))))))

theorem sc_read_lines : FnScope N_read_lines ["text"] (defScope (top 38)) := ⟨rfl, rfl, rfl, by decide +kernel, rfl, by decide +kernel, by decide +kernel⟩
theorem ok_read_lines {P : Program} {w : World} {K : Frag} {mg : Str → Option Value} {base : Heap} {A : Ad} {f : Addr} {fd : FuncData} (F : Fun K "read_lines" "read_lines" (top 38) f fd) (T : Txt K mg w A)
    (c_line_content : Cal P w K mg base CX0 6 "line_content" ["texts"] (sp_line_content A K))
    (c_Bad : CalI P w K mg base 1 A.fB ["self", "line", "why"] (spBad A K))
    (len : ∀ vs H Q E, sp_read_lines A K vs H Q E → vs.length = 1)
    (pure : ∀ vs H Q E, sp_read_lines A K vs H Q E → t_read_lines A K w E { nx := fun _ H' => Q .non H', rt := Q } (start N_read_lines vs) H) : FnOk P w K mg base (L2.CX P w) 7 f fd ["text"] (sp_read_lines A K) := by
  refine F.okX sc_read_lines (fun vs H Q E h => len vs H Q E h) (fun cdv Ar outer s H vs Q E hr h => ⟨t_read_lines A K w E, ?_, pure vs H Q E h⟩)
  exact (pss_cons (ps_set (i := 1) sc_read_lines.nd rfl (Or.inl rfl) (pe_split (pv 0) pe_str))
      (pss_cons (ps_set (i := 2) sc_read_lines.nd rfl (Or.inl rfl) (pe_lst pa_nil))
      (pss_cons (ps_set (i := 3) sc_read_lines.nd rfl (Or.inl rfl) pe_str)
      (pss_cons (ps_for (passes_of rfl) rfl (pi_range1 rfl T.f_range (pa_cons (pe_op op_sub (pe_callB call_len_seq (by rfl) T.f_len PySem.boot_len (pa_cons (pv 1) pa_nil)) pe_int) pa_nil)) (pg_name (i := 4) sc_read_lines.nd rfl (Or.inl rfl))
        (pss_cons (ps_set (i := 5) sc_read_lines.nd rfl (Or.inl rfl) (pe_split (pe_ix ix_list (pv 1) (pv 4) (fun _ _ => rfl)) pe_str))
      (pss_cons (ps_set (i := 6) sc_read_lines.nd rfl (Or.inl rfl) pe_non)
      (pss_cons (ps_if (pt_cmpR op_in_seq (pe_ix ix_list (pv 5) pe_int (fun _ _ => rfl)) (pe_ix ix_kdict (T.g_FOLLOWERS) (pv 3) (fun _ _ => rfl)) (by rfl)) (pss_one (ps_set (i := 6) sc_read_lines.nd rfl (Or.inl rfl) (pe_cal c_line_content hr (pa_cons (pv 5) pa_nil)))) pss_nil)
      (pss_cons (ps_if (pt_cmpR op_isN (pv 6) pe_non (nomark _)) (pss_one (T.raiseBad c_Bad hr (takes_of rfl rfl rfl rfl) (pa_cons (pe_op op_add (pv 4) pe_int) (pa_cons pe_str pa_nil)))) pss_nil)
      (pss_cons (ps_set (i := 3) sc_read_lines.nd rfl (Or.inl rfl) (pe_ix ix_list (pv 5) pe_int (fun _ _ => rfl)))
      (pss_one (ps_expr (pe_bm PySem.F.plainAttrs_list PySem.F.slot_list_append PySem.F.type_list_append mt_append (pv 2) (pa_cons (pe_tup (pa_cons (pv 3) (pa_cons (pv 6) pa_nil))) pa_nil))))))))))
      (pss_cons (ps_if (PW.pt (pw_or (pt_cmpR op_ne (pe_ix ix_list (pv 1) (pe_un un_neg pe_int) (fun _ _ => rfl)) pe_str (nomark _)) (pw_or1 (pt_cmpR op_notIn_seq (pv 3) (pe_tup (pa_cons pe_str (pa_cons pe_str pa_nil))) (by rfl))))) (pss_one (T.raiseBad c_Bad hr (takes_of rfl rfl rfl rfl) (pa_cons (pe_callB call_len_seq (by rfl) T.f_len PySem.boot_len (pa_cons (pv 1) pa_nil)) (pa_cons pe_str pa_nil)))) pss_nil)
      (pss_one (ps_ret (pv 2))))))))

theorem sc_read_image : FnScope N_read_image ["text"] (defScope (top 39)) := ⟨rfl, rfl, rfl, by decide +kernel, rfl, by decide +kernel, by decide +kernel⟩
theorem ok_read_image {P : Program} {w : World} {K : Frag} {mg : Str → Option Value} {base : Heap} {A : Ad} {f : Addr} {fd : FuncData} (F : Fun K "read_image" "read_image" (top 39) f fd) (T : Txt K mg w A)
    (c_read_lines : Cal P w K mg base (L2.CX P w) 7 "read_lines" ["text"] (sp_read_lines A K))
    (c_Pic : CalI P w K mg base 1 A.fP ["self", "statics", "frames", "watched", "parted", "objects"] (spPic A K))
    (len : ∀ vs H Q E, sp_read_image A K vs H Q E → vs.length = 1)
    (pure : ∀ vs H Q E, sp_read_image A K vs H Q E → t_read_image A K w E { nx := fun _ H' => Q .non H', rt := Q } (start N_read_image vs) H) : FnOk P w K mg base (L2.CX P w) 8 f fd ["text"] (sp_read_image A K) := by
  refine F.okX sc_read_image (fun vs H Q E h => len vs H Q E h) (fun cdv Ar outer s H vs Q E hr h => ⟨t_read_image A K w E, ?_, pure vs H Q E h⟩)
  exact (pss_cons (ps_par3 (i := 1) (j := 2) (l := 3) rfl sc_read_image.nd rfl rfl rfl (by decide) (by decide) (by decide) rfl rfl rfl (pa_cons (pe_lst pa_nil) (pa_cons (pe_lst pa_nil) (pa_cons (pe_lst pa_nil) pa_nil))) (by rfl))
      (pss_cons (ps_asg (pe_tup (pa_cons (pe_tup pa_nil) (pa_cons (pe_tup pa_nil) pa_nil))) (pg_tup rfl (pgs_cons (pg_name (i := 4) sc_read_image.nd rfl (Or.inl rfl)) (pgs_cons (pg_name (i := 5) sc_read_image.nd rfl (Or.inl rfl)) pgs_nil))))
      (pss_cons (ps_set (i := 6) sc_read_image.nd rfl (Or.inl rfl) (pe_calX c_read_lines (passes_call (takes_of rfl rfl rfl rfl) fun _ _ _ _ h => h) hr (pa_cons (pv 0) pa_nil)))
      (pss_cons (ps_for (passes_of rfl) rfl (pi_range1 rfl T.f_range (pa_cons (pe_callB call_len_seq (by rfl) T.f_len PySem.boot_len (pa_cons (pv 6) pa_nil)) pa_nil)) (pg_name (i := 7) sc_read_image.nd rfl (Or.inl rfl))
        (pss_cons (ps_asg (pe_ix ix_list (pv 6) (pv 7) (fun _ _ => rfl)) (pg_tup rfl (pgs_cons (pg_name (i := 8) sc_read_image.nd rfl (Or.inl rfl)) (pgs_cons (pg_name (i := 9) sc_read_image.nd rfl (Or.inl rfl)) pgs_nil))))
      (pss_cons (ps_if (pt_cmpR op_eq (pv 8) pe_str (nomark _)) (pss_one (ps_expr (pe_bm PySem.F.plainAttrs_list PySem.F.slot_list_append PySem.F.type_list_append mt_append (pv 1) (pa_cons (pe_ix ix_tup (pv 9) pe_int (fun _ _ => rfl)) pa_nil)))) pss_nil)
      (pss_cons (ps_if (pt_cmpR op_eq (pv 8) pe_str (nomark _)) (pss_one (ps_expr (pe_bm PySem.F.plainAttrs_list PySem.F.slot_list_append PySem.F.type_list_append mt_append (pv 2) (pa_cons (pe_tup (pa_cons (pe_ix ix_tup (pv 9) pe_int (fun _ _ => rfl)) (pa_cons (pe_ix ix_tup (pv 9) pe_int (fun _ _ => rfl)) (pa_cons (pe_ix ix_tup (pe_ix ix_list (pv 6) (pe_op op_add (pv 7) pe_int) (fun _ _ => rfl)) pe_int (fun _ _ => rfl)) (pa_cons (pe_ix ix_tup (pe_ix ix_list (pv 6) (pe_op op_add (pv 7) pe_int) (fun _ _ => rfl)) pe_int (fun _ _ => rfl)) pa_nil))))) pa_nil)))) pss_nil)
      (pss_cons (ps_if (pt_cmpR op_eq (pv 8) pe_str (nomark _)) (pss_one (ps_set (i := 4) sc_read_image.nd rfl (Or.inl rfl) (pv 9))) pss_nil)
      (pss_cons (ps_if (pt_cmpR op_eq (pv 8) pe_str (nomark _)) (pss_one (ps_set (i := 5) sc_read_image.nd rfl (Or.inl rfl) (pv 9))) pss_nil)
      (pss_one (ps_if (pt_cmpR op_eq (pv 8) pe_str (nomark _)) (pss_one (ps_expr (pe_bm PySem.F.plainAttrs_list PySem.F.slot_list_append PySem.F.type_list_append mt_append (pv 3) (pa_cons (pv 9) pa_nil)))) pss_nil))))))))
      (pss_one (ps_ret (T.mkPic c_Pic hr (pa_cons (pv 1) (pa_cons (pv 2) (pa_cons (pv 4) (pa_cons (pv 5) (pa_cons (pv 3) pa_nil))))))))))))

theorem sc_law : FnScope N_law ["_law_script"] (defScope (top 58)) := ⟨rfl, rfl, rfl, by decide +kernel, rfl, by decide +kernel, by decide +kernel⟩
theorem ok_law {P : Program} {w : World} {K : Frag} {mg : Str → Option Value} {base : Heap} {A : Ad} {f : Addr} {fd : FuncData} (F : Fun K "law" "law" (top 58) f fd) (T : Txt K mg w A)
    (c__law_free : Cal P w K mg base CX0 3 "_law_free" ["_law_script", "_law_at"] (sp__law_free A K))
    (c__law_text : Cal P w K mg base CX0 3 "_law_text" ["_law_data"] (sp__law_text A K))
    (c__law_back : Cal P w K mg base CX0 9 "_law_back" ["_law_text_here", "_law_due"] (sp__law_back A K))
    (c__law_cell : Cal P w K mg base CX0 1 "_law_cell" ["_law_script", "_law_k"] (sp__law_cell A K))
    (c__law_digits : Cal P w K mg base CX0 1 "_law_digits" ["_law_cell_here", "_law_sizes"] (sp__law_digits A K))
    (c__law_edited : Cal P w K mg base CX0 2 "_law_edited" ["_law_text_here", "_law_row_here"] (sp__law_edited A K))
    (c__law_own_text : Cal P w K mg base CX0 9 "_law_own_text" ["_law_text_here"] (sp__law_own_text A K))
    (len : ∀ vs H Q E, sp_law A K vs H Q E → vs.length = 1)
    (pure : ∀ vs H Q E, sp_law A K vs H Q E → t_law A K w { nx := fun _ H' => Q .non H', rt := Q } (start N_law vs) H) : FnOk P w K mg base (CX0) 10 f fd ["_law_script"] (sp_law A K) := by
  refine F.ok sc_law (fun vs H Q E h => len vs H Q E h) (fun cdv Ar outer s H vs Q E hr h => ⟨t_law A K w, ?_, pure vs H Q E h⟩)
  exact (pss_cons (ps_set (i := 1) sc_law.nd rfl (Or.inl rfl) (pe_cal c__law_free hr (pa_cons (pv 0) (pa_cons pe_int pa_nil))))
      (pss_cons (ps_set (i := 2) sc_law.nd rfl (Or.inl rfl) (pe_tup (pa_cons (pe_ix ix_tup (pv 1) pe_int (fun _ _ => rfl)) (pa_cons (pe_callTy call_tuple_of (by rfl) T.f_tuple (by decide +kernel) (pa_cons (pe_lrev rfl (by rfl) T.f_list (by rfl) T.f_reversed (pe_ix ix_tup (pv 1) pe_int (fun _ _ => rfl))) pa_nil)) (pa_cons (pe_ix ix_tup (pv 1) pe_int (fun _ _ => rfl)) (pa_cons (pe_ix ix_tup (pv 1) pe_int (fun _ _ => rfl)) (pa_cons (pe_callTy call_tuple_of (by rfl) T.f_tuple (by decide +kernel) (pa_cons (pe_lrev rfl (by rfl) T.f_list (by rfl) T.f_reversed (pe_ix ix_tup (pv 1) pe_int (fun _ _ => rfl))) pa_nil)) pa_nil)))))))
      (pss_cons (ps_set (i := 3) sc_law.nd rfl (Or.inl rfl) (pe_cal c__law_text hr (pa_cons (pv 1) pa_nil)))
      (pss_cons (ps_if (PW.pt (pw_or (pt_not (pt_val (pe_cal c__law_back hr (pa_cons (pv 3) (pa_cons (pv 1) pa_nil))))) (pw_or1 (pt_not (pt_val (pe_cal c__law_back hr (pa_cons (pe_cal c__law_text hr (pa_cons (pv 2) pa_nil)) (pa_cons (pv 2) pa_nil)))))))) (pss_one (ps_ret pe_bl)) pss_nil)
      (pss_cons (ps_set (i := 4) sc_law.nd rfl (Or.inl rfl) (pe_lst (pa_cons pe_int (pa_cons pe_int (pa_cons pe_int (pa_cons pe_int (pa_cons pe_int pa_nil)))))))
      (pss_cons (ps_for PassesOwn.never rfl (pi_range1 rfl T.f_range (pa_cons pe_int pa_nil)) (pg_name (i := 5) sc_law.nd rfl (Or.inl rfl))
        (pss_one (ps_if (pt_not (pt_val (pe_cal c__law_own_text hr (pa_cons (pe_cal c__law_edited hr (pa_cons (pv 3) (pa_cons (pe_cal c__law_digits hr (pa_cons (pe_cal c__law_cell hr (pa_cons (pv 0) (pa_cons (pe_op op_add pe_int (pv 5)) pa_nil))) (pa_cons (pv 4) pa_nil))) pa_nil))) pa_nil)))) (pss_one (ps_ret pe_bl)) pss_nil)))
      (pss_one (ps_ret (pe_cal c__law_back hr (pa_cons (pv 3) (pa_cons (pv 1) pa_nil)))))))))))

end Qb

/-! Kp0 -/
set_option Elab.async false
set_option linter.all false
set_option maxRecDepth 100000
set_option maxHeartbeats 2000000
/-! Small lemmas for the readings. -/
namespace Qb
open PySem PySem.Spec PyProof.Rows L2
theorem itD {p : Prop} [Decidable p] {A B : Prop} (h1 : p → A) (h2 : ¬ p → B) : if decide p = true then A else B := by
  by_cases h : p
  · rw [if_pos (decide_eq_true h)]; exact h1 h
  · rw [if_neg (by rw [decide_eq_false h]; exact Bool.false_ne_true)]; exact h2 h
theorem itN {p : Prop} [Decidable p] {A B : Prop} (h1 : ¬ p → A) (h2 : p → B) : if (!decide p) = true then A else B := by
  by_cases h : p
  · rw [if_neg (by rw [decide_eq_true h]; exact Bool.false_ne_true)]; exact h2 h
  · rw [if_pos (by rw [decide_eq_false h]; rfl)]; exact h1 h
theorem itB {b : Bool} {A B : Prop} (h1 : b = true → A) (h2 : b = false → B) : if b = true then A else B := by
  cases b with
  | true => rw [if_pos rfl]; exact h1 rfl
  | false => rw [if_neg Bool.false_ne_true]; exact h2 rfl
theorem itTrue {p : Prop} [Decidable p] {A B : Prop} (hp : p) (h : A) : if decide p = true then A else B := by
  rw [if_pos (decide_eq_true hp)]; exact h
theorem itFalse {p : Prop} [Decidable p] {A B : Prop} (hp : ¬ p) (h : B) : if decide p = true then A else B := by
  rw [if_neg (by rw [decide_eq_false hp]; exact Bool.false_ne_true)]; exact h
theorem dI (a b : Int) : decide (V.int a = V.int b) = decide (a = b) := by
  by_cases h : a = b
  · rw [h, decide_eq_true rfl, decide_eq_true rfl]
  · rw [decide_eq_false h, decide_eq_false (fun z => h (by injection z))]
theorem dS (a b : T) : decide (V.str (S a) = V.str (S b)) = decide (a = b) := by
  by_cases h : a = b
  · rw [h, decide_eq_true rfl, decide_eq_true rfl]
  · rw [decide_eq_false h, decide_eq_false (fun z => h (S_inj (by injection z)))]
theorem vI {a b : Int} : V.int a = V.int b ↔ a = b := ⟨fun z => by injection z, fun z => by rw [z]⟩
theorem vS {a b : T} : V.str (S a) = V.str (S b) ↔ a = b := ⟨fun z => S_inj (by injection z), fun z => by rw [z]⟩
theorem sizeLine16 : sizeLine = 16777216 := sizeLine_eq
theorem szT {t : T} {n : Nat} (h : t.length ≤ n) (hn : n ≤ 16000000 := by decide) : (S t).length ≤ sizeLine := by
  rw [S_len, sizeLine16]
  omega
theorem szN {m n : Nat} (h : m ≤ n) (hn : n ≤ 16000000 := by decide) : m ≤ sizeLine := by
  rw [sizeLine16]
  omega
theorem szL {m n : Nat} (h : m ≤ n) (hn : n ≤ 16000000 := by decide) : m < sizeLine := by
  rw [sizeLine16]
  omega
/-! slices of texts and lists -/
theorem cutS_from (t : T) (a : Nat) : cutS (S t) (some (a : Int)) none = S (t.drop a) := by
  refine TL.ext_tl ?_
  show ((t.drop (HT.sIx (S t).length 0 (some (a : Int)))).take (HT.sIx (S t).length (S t).length none - HT.sIx (S t).length 0 (some (a : Int)))) = t.drop a
  rw [HT.sIx_nat, HT.sIx_none, S_len]
  by_cases h : a ≤ t.length
  · rw [Nat.min_eq_left h, List.take_of_length_le (by rw [List.length_drop]; omega)]
  · rw [Nat.min_eq_right (by omega), List.drop_length, List.drop_of_length_le (by omega)]
    simp
theorem cutS_to (t : T) (b : Nat) : cutS (S t) none (some (b : Int)) = S (t.take b) := by
  refine TL.ext_tl ?_
  show ((t.drop (HT.sIx (S t).length 0 none)).take (HT.sIx (S t).length (S t).length (some (b : Int)) - HT.sIx (S t).length 0 none)) = t.take b
  rw [HT.sIx_nat, HT.sIx_none, S_len, List.drop_zero, Nat.sub_zero]
  by_cases h : b ≤ t.length
  · rw [Nat.min_eq_left h]
  · rw [Nat.min_eq_right (by omega), List.take_length, List.take_of_length_le (by omega)]
theorem cutV_from (xs : List V) (a : Nat) : cutV xs (some (a : Int)) none = xs.drop a := by
  unfold cutV
  rw [HT.sIx_nat, HT.sIx_none]
  by_cases h : a ≤ xs.length
  · rw [Nat.min_eq_left h, List.take_of_length_le (by rw [List.length_drop]; omega)]
  · rw [Nat.min_eq_right (by omega), List.drop_length, List.drop_of_length_le (by omega)]
    simp
theorem cutV_to (xs : List V) (b : Nat) : cutV xs none (some (b : Int)) = xs.take b := by
  unfold cutV
  rw [HT.sIx_nat, HT.sIx_none, List.drop_zero, Nat.sub_zero]
  by_cases h : b ≤ xs.length
  · rw [Nat.min_eq_left h]
  · rw [Nat.min_eq_right (by omega), List.take_length, List.take_of_length_le (by omega)]
theorem cutV_mid (xs : List V) (a b : Nat) (h : b ≤ xs.length) : cutV xs (some (a : Int)) (some (b : Int)) = (xs.drop a).take (b - a) := by
  unfold cutV
  rw [HT.sIx_nat, HT.sIx_nat, Nat.min_eq_left h]
  by_cases h2 : a ≤ xs.length
  · rw [Nat.min_eq_left h2]
  · rw [Nat.min_eq_right (by omega), List.drop_length, List.drop_of_length_le (by omega)]
    simp
/-! split and join -/
theorem split1 (t : T) {c : Nat} (hc : c < 256) : Txt.split (S t) (S [c]) = (cut c t).map S := by
  refine TL.map_tl_inj ?_
  rw [TL.split_spl (S t) (S [c]) (by rw [tl_S]; simp) (TL.kind_ok (by
    show (#[c] : Array Nat).all (· < 256) = true
    simp [hc]))]
  rw [tl_S, tl_S, spl_eq_cut, List.map_map]
  show cut c t = (cut c t).map (fun p => TL.tl (S p))
  have e : (fun p => TL.tl (S p)) = fun p : T => p := funext tl_S
  rw [e, List.map_id']
theorem joinS (s : T) (ts : List T) : Txt.join (S s) (ts.map S) = S (TL.joinL s ts) := by
  refine TL.ext_tl ?_
  rw [TL.join_eq, TL.tl_join, tl_S, tl_S, List.map_map]
  have e : (TL.tl ∘ S) = fun p : T => p := funext tl_S
  rw [e, List.map_id']
/-! signs -/
theorem in_dig (c : Nat) : decide (c ∈ sDig.cps.toList) = isD c := by
  have e : sDig.cps.toList = [48, 49, 50, 51, 52, 53, 54, 55, 56, 57] := by decide +kernel
  rw [e]
  unfold isD
  congr 1
  simp only [List.mem_cons, List.not_mem_nil, or_false, eq_iff_iff]
  omega
theorem in_let (c : Nat) : decide (c ∈ sLet.cps.toList) = lowC c := by
  have e : sLet.cps.toList = [97, 98, 99, 100, 101, 102, 103, 104, 105, 106, 107, 108, 109, 110, 111, 112, 113, 114, 115, 116, 117, 118, 119, 120, 121, 122] := by decide +kernel
  rw [e]
  unfold lowC
  congr 1
  simp only [List.mem_cons, List.not_mem_nil, or_false, eq_iff_iff]
  omega
/-! text of code points by place -/
theorem S_at (t : T) (i : Nat) : (S t).cps[i]? = t[i]? := by
  show (t.toArray)[i]? = t[i]?
  simp
theorem S_size (t : T) : (S t).cps.size = t.length := by
  show t.toArray.size = _
  simp
theorem lit (s : String) : (Str.ofString s) = S (cs s) := (S_cs s).symm
/-! items -/
theorem atT {xs : List V} {i : Int} {j : Nat} {v : V} (e : i = (j : Int)) (h : xs[j]? = some v) : atI xs i = some v := at_of e h
end Qb

/-! Kp1 -/
set_option Elab.async false
set_option linter.all false
set_option maxRecDepth 100000
set_option maxHeartbeats 2000000
/-! Readings: numbers, words, names. -/
namespace Qb
open PySem PySem.Spec PyProof.Rows L2
section
variable {A : Ad} {K : Frag} {w : World} {mg : Str → Option Value} {vs : List V} {H : Hp} {Q : VK} {E : XK}
theorem len_wrap (h : sp_wrap A K vs H Q E) : vs.length = 1 := by obtain ⟨_, rfl, _⟩ := h; rfl
theorem pure_wrap (h : sp_wrap A K vs H Q E) : t_wrap A K w { nx := fun _ H' => Q .non H', rt := Q } (start N_wrap vs) H := by
  obtain ⟨n, rfl, q⟩ := h
  exact ⟨_, rfl, _, _, rfl, rfl, _, _, rfl, rfl, (by show (0 : Int) < 4294967296; decide), _, _, rfl, rfl, q⟩
theorem len_number_word (h : sp_number_word A K vs H Q E) : vs.length = 1 := by obtain ⟨_, rfl, _⟩ := h; rfl
theorem pure_number_word (h : sp_number_word A K vs H Q E) : t_number_word A K w { nx := fun _ H' => Q .non H', rt := Q } (start N_number_word vs) H := by
  obtain ⟨n, rfl, q⟩ := h
  exact ⟨_, rfl, _, rfl, _, _, rfl, rfl, .inl ⟨by decide, by decide⟩, _, _, rfl, rfl, q⟩
theorem len_reference_word (h : sp_reference_word A K vs H Q E) : vs.length = 1 := by obtain ⟨_, rfl, _⟩ := h; rfl
theorem pure_reference_word (h : sp_reference_word A K vs H Q E) : t_reference_word A K w { nx := fun _ H' => Q .non H', rt := Q } (start N_reference_word vs) H := by
  obtain ⟨n, rfl, q⟩ := h
  exact ⟨_, rfl, _, _, rfl, rfl, .inl ⟨by decide, by decide⟩, q⟩
theorem len_is_number (h : sp_is_number A K vs H Q E) : vs.length = 1 := by obtain ⟨_, rfl, _⟩ := h; rfl
theorem pure_is_number (h : sp_is_number A K vs H Q E) : t_is_number A K w { nx := fun _ H' => Q .non H', rt := Q } (start N_is_number vs) H := by
  obtain ⟨n, rfl, q⟩ := h
  refine ⟨_, rfl, _, _, rfl, rfl, (by show (0 : Int) < 2; decide), rfl, ?_⟩
  rw [dI]
  exact q
theorem len_number_of (h : sp_number_of A K vs H Q E) : vs.length = 1 := by obtain ⟨_, rfl, _⟩ := h; rfl
theorem pure_number_of (h : sp_number_of A K vs H Q E) : t_number_of A K w { nx := fun _ H' => Q .non H', rt := Q } (start N_number_of vs) H := by
  obtain ⟨n, rfl, q⟩ := h
  exact ⟨_, rfl, _, _, rfl, rfl, _, _, rfl, rfl, ⟨by decide, by decide⟩, q⟩
theorem len_address_of (h : sp_address_of A K vs H Q E) : vs.length = 1 := by obtain ⟨_, rfl, _⟩ := h; rfl
theorem pure_address_of (h : sp_address_of A K vs H Q E) : t_address_of A K w { nx := fun _ H' => Q .non H', rt := Q } (start N_address_of vs) H := by
  obtain ⟨n, rfl, q⟩ := h
  exact ⟨_, rfl, _, _, rfl, rfl, ⟨by decide, by decide⟩, q⟩
theorem len_is_name (h : sp_is_name A K vs H Q E) : vs.length = 1 := by obtain ⟨_, rfl, _⟩ := h; rfl
theorem eq_str (a b : T) : (S a == S b) = decide (a = b) := by
  by_cases h : a = b
  · rw [h]; simp
  · rw [decide_eq_false h]
    exact beq_eq_false_iff_ne.mpr fun z => h (S_inj z)
theorem in_res (t : T) : inV (V.str (S t)) ([("num" : Str), "mixed", "unset"].map V.str) = decide (t ∈ reserved) := by
  show ((("num" : Str) == S t) || ((("mixed" : Str) == S t) || ((("unset" : Str) == S t) || false))) = decide (t ∈ reserved)
  have e1 : ("num" : Str) = S (cs "num") := lit _
  have e2 : ("mixed" : Str) = S (cs "mixed") := lit _
  have e3 : ("unset" : Str) = S (cs "unset") := lit _
  rw [e1, e2, e3, eq_str, eq_str, eq_str, Bool.or_false]
  rw [Bool.eq_iff_iff]
  simp only [Bool.or_eq_true, decide_eq_true_eq, reserved, List.mem_cons, List.not_mem_nil, or_false]
  constructor
  · rintro (h | h | h)
    · exact .inl h.symm
    · exact .inr (.inl h.symm)
    · exact .inr (.inr h.symm)
  · rintro (h | h | h)
    · exact .inl h.symm
    · exact .inr (.inl h.symm)
    · exact .inr (.inr h.symm)
theorem pure_is_name (T : Txt K mg w A) (h : sp_is_name A K vs H Q E) : t_is_name A K w { nx := fun _ H' => Q .non H', rt := Q } (start N_is_name vs) H := by
  obtain ⟨t, rfl, hl, q⟩ := h
  have bad : ∀ b : Bool, isName t = b → Q (.bl b) H := fun b e => by rw [← e]; exact q
  have hS := S_len t
  refine ⟨_, rfl, _, rfl, szT hl, _, _, rfl, rfl, _, rfl, itD (fun h1 => ?_) (fun h1 => ?_)⟩
  · refine iteT (bad false ?_)
    unfold isName
    rw [if_pos (.inl (by omega))]
  refine ⟨_, rfl, _, rfl, szT hl, _, _, rfl, rfl, _, rfl, itD (fun h2 => ?_) (fun h2 => ?_)⟩
  · refine iteT (bad false ?_)
    unfold isName
    rw [if_pos (.inr (.inl (by omega)))]
  refine ⟨_, rfl, _, _, rfl, .inr (T.res H), rfl, rfl, _, rfl, ?_⟩
  show if (if false = true then !inV (V.str (S t)) _ else inV (V.str (S t)) ([("num" : Str), "mixed", "unset"].map V.str)) = true then _ else _
  rw [if_neg Bool.false_ne_true, in_res]
  refine itD (fun h3 => ?_) (fun h3 => ?_)
  · refine bad false ?_
    unfold isName
    rw [if_pos (.inr (.inr h3))]
  have hn : ¬ (t.length < 1 ∨ t.length > 16 ∨ t ∈ reserved) := by
    rintro (z | z | z)
    · omega
    · omega
    · exact h3 z
  refine ⟨_, rfl, _, rfl, for_it walk_str (fun i σ H' => H' = H ∧ (∀ j c, j < i → t[j]? = some c → nameC c = true) ∧ ∃ v, σ = [some (.str (S t)), v]) ⟨rfl, fun j c hj => absurd hj (Nat.not_lt_zero j), _, rfl⟩ (fun _ _ _ _ _ => trivial) ?_ ?_⟩
  · rintro i x σ H1 H2 hi ⟨e1, hall, v, rfl⟩ ⟨e2, c, hc, rfl⟩
    subst e1 e2
    rw [S_at] at hc
    have step : nameC c = true → ∀ j d, j < i + 1 → t[j]? = some d → nameC d = true := fun hcn j d hj hd => by
      by_cases z : j < i
      · exact hall j d z hd
      · have : j = i := by omega
        subst this
        rw [hc] at hd
        rw [← Option.some.inj hd]
        exact hcn
    refine ⟨_, rfl, _, _, rfl, rfl, _, rfl, ?_⟩
    rw [in_let]
    refine itB (fun c1 => ?_) (fun c1 => ?_)
    · refine ⟨_, rfl, _, _, rfl, rfl, _, rfl, ?_⟩
      rw [in_dig]
      refine itB (fun c2 => ?_) (fun c2 => ?_)
      · refine bad false ?_
        unfold isName
        rw [if_neg hn, if_neg]
        intro z
        have z1 := List.all_eq_true.mp z c (List.mem_of_getElem? hc)
        unfold nameC at z1
        rw [Bool.not_eq_true'] at c1 c2
        rw [c1, c2] at z1
        cases z1
      · refine ⟨rfl, step ?_, _, rfl⟩
        unfold nameC
        rw [Bool.not_eq_false'] at c2
        rw [c2, Bool.or_true]
    · refine ⟨rfl, step ?_, _, rfl⟩
      unfold nameC
      rw [Bool.not_eq_false'] at c1
      rw [c1, Bool.true_or]
  · rintro σ H1 ⟨e1, hall, v, rfl⟩
    subst e1
    rw [S_size] at hall
    cases t with
    | nil => exact absurd (.inl (by decide)) hn
    | cons c r =>
      have hc : atI (S (c :: r)).cps.toList 0 = some c := atI_nat (j := 0) rfl
      refine ⟨_, rfl, _, _, c, rfl, rfl, szT hl, hc, _, _, rfl, rfl, ?_⟩
      rw [in_let]
      refine bad _ ?_
      unfold isName
      rw [if_neg hn, if_pos]
      refine List.all_eq_true.mpr fun d hd => ?_
      obtain ⟨j, hj⟩ := List.getElem?_of_mem hd
      have hlt : j < (c :: r).length := (List.getElem?_eq_some_iff.mp hj).1
      exact hall j d hlt hj
theorem len_integer_of (h : sp_integer_of A K vs H Q E) : vs.length = 1 := by obtain ⟨_, rfl, _⟩ := h; rfl
theorem pure_integer_of (h : sp_integer_of A K vs H Q E) : t_integer_of A K w { nx := fun _ H' => Q .non H', rt := Q } (start N_integer_of vs) H := by
  obtain ⟨t, rfl, hl, q⟩ := h
  have e0 : ("0" : Str) = S [48] := lit _
  have em : ("-" : Str) = S [45] := lit _
  have bad : ∀ o, intOf t = o → Q (ov o) H := fun o e => by rw [← e]; exact q
  -- if word == "0": return 0
  refine ⟨_, rfl, rfl, _, rfl, ?_⟩
  rw [e0, dS]
  refine itD (fun h0 => ?_) (fun h0 => ?_)
  · refine bad (some 0) ?_
    unfold intOf
    rw [if_pos h0]
  -- digits = word; if word[:1] == "-": digits = word[1:]
  refine ⟨_, rfl, ?_⟩
  refine ⟨_, rfl, 1, rfl, _, rfl, szT hl, rfl, _, rfl, ?_⟩
  have c1 : cutS (S t) none (some 1) = S (t.take 1) := cutS_to t 1
  have c2 : cutS (S t) (some 1) none = S (t.drop 1) := cutS_from t 1
  rw [c1, em, dS]
  have rest : ∀ H1, H1 = H → (tSeq (tIfS (tOr (tTest (tOp rLt (tCB rLenS (tCons (tVar 1) tNil)) (tC (.int 1)))) (tOr (tTest (tOp rGt' (tCB rLenS (tCons (tVar 1) tNil)) (tC (.int 10)))) (tTest (tOp rEq (tOp rIxS (tVar 1) (tC (.int 0))) (tC (.str "0")))))) (tRet (tC .non)) tNext)
      (tSeq (tFor (iStr (tVar 1)) (gName 2) (tIfS (tTest (tOp rNotInSg (tVar 2) (tC (.str sDig)))) (tRet (tC .non)) tNext)) (tRet (tCB rIntS (tCons (tVar 0) tNil)))))
      { nx := fun _ H' => Q .non H', rt := Q } [some (.str (S t)), some (.str (S (stripM t))), none] H1 := by
    intro H1 eH
    subst eH
    have hd : (stripM t).length ≤ big + 10 := by
      unfold stripM
      split
      · rw [List.length_drop]; omega
      · exact hl
    have hS := S_len (stripM t)
    have none_of : badD (stripM t) → Q .non H1 := fun hb => by
      refine bad none ?_
      unfold intOf
      rw [if_neg h0, if_pos hb]
    refine ⟨_, rfl, _, rfl, szT hd, _, _, rfl, rfl, _, rfl, itD (fun h1 => ?_) (fun h1 => ?_)⟩
    · exact iteT (none_of (.inl (by omega)))
    refine ⟨_, rfl, _, rfl, szT hd, _, _, rfl, rfl, _, rfl, itD (fun h2 => ?_) (fun h2 => ?_)⟩
    · exact iteT (none_of (.inr (.inl (by omega))))
    cases ed : stripM t with
    | nil => rw [ed] at hS; rw [ed] at h1; exact absurd (by rw [S_len]; decide) h1
    | cons c r =>
      rw [ed] at hd none_of hS
      have hc : atI (S (c :: r)).cps.toList 0 = some c := atI_nat (j := 0) rfl
      refine ⟨_, rfl, _, _, c, rfl, rfl, szT hd, hc, rfl, _, rfl, ?_⟩
      have es : V.str ⟨#[c]⟩ = V.str (S [c]) := rfl
      rw [es, e0, dS]
      refine itD (fun h3 => ?_) (fun h3 => ?_)
      · refine none_of (.inr (.inr ?_))
        have h4 : c = 48 := by injection h3
        rw [h4]
        rfl
      have nb : ¬ badD (stripM t) := by
        rw [ed]
        rintro (z | z | z)
        · simp at z
        · rw [ed, hS] at h2
          exact h2 (by exact_mod_cast z)
        · exact h3 (by
            have z1 : c = 48 := Option.some.inj z
            rw [z1])
      refine ⟨_, rfl, _, rfl, for_it walk_str (fun i σ H' => H' = H1 ∧ (∀ j c', j < i → (c :: r)[j]? = some c' → isD c' = true) ∧ ∃ v, σ = [some (.str (S t)), some (.str (S (c :: r))), v]) ⟨rfl, fun j c hj => absurd hj (Nat.not_lt_zero j), _, rfl⟩ (fun _ _ _ _ _ => trivial) ?_ ?_⟩
      · rintro i x σ H2 H3 hi ⟨e1, hall, v, rfl⟩ ⟨e2, d, hc2, rfl⟩
        subst e1 e2
        rw [S_at] at hc2
        refine ⟨_, rfl, _, _, rfl, rfl, _, rfl, ?_⟩
        rw [in_dig]
        refine itB (fun k1 => ?_) (fun k1 => ?_)
        · refine bad none ?_
          unfold intOf
          rw [if_neg h0, if_neg nb, if_neg]
          intro z
          rw [ed] at z
          have z1 := List.all_eq_true.mp z d (List.mem_of_getElem? hc2)
          rw [Bool.not_eq_true'] at k1
          rw [k1] at z1
          cases z1
        · refine ⟨rfl, fun j d2 hj hd2 => ?_, _, rfl⟩
          by_cases z : j < i
          · exact hall j d2 z hd2
          · have : j = i := by omega
            subst this
            rw [hc2] at hd2
            rw [← Option.some.inj hd2]
            rw [Bool.not_eq_false'] at k1
            exact k1
      · rintro σ H2 ⟨e1, hall, v, rfl⟩
        subst e1
        have ha : (stripM t).all isD = true := by
          rw [ed]
          refine List.all_eq_true.mpr fun d hd2 => ?_
          obtain ⟨j, hj⟩ := List.getElem?_of_mem hd2
          have hlt : j < (c :: r).length := (List.getElem?_eq_some_iff.mp hj).1
          rw [S_size] at hall
          exact hall j d hlt hj
        obtain ⟨i1, i2⟩ := int_text nb ha
        refine ⟨_, rfl, _, _, rfl, i1, i2, ?_⟩
        refine bad (some (valM t)) ?_
        unfold intOf
        rw [if_neg h0, if_neg nb, if_pos ha]
  refine itD (fun hm => ?_) (fun hm => ?_)
  · refine ⟨_, rfl, 1, rfl, _, rfl, szT hl, ?_⟩
    rw [c2]
    have es : stripM t = t.drop 1 := if_pos hm
    have z := rest H rfl
    rw [es] at z
    exact z
  · have es : stripM t = t := if_neg hm
    have z := rest H rfl
    rw [es] at z
    exact z
end
end Qb

/-! Kp2 -/
set_option Elab.async false
set_option linter.all false
set_option maxRecDepth 100000
set_option maxHeartbeats 2000000
/-! General lemmas for lists; readings of words and lines. -/
namespace Qb
open PySem PySem.Spec PyProof.Rows L2
/-- a comprehension that maps: the i-th of as gives an y with R -/
theorem lc_gen {α : Type} {J : It} {n : Nat} {G : Hp → Prop} {Y : Nat → Hp → V → Hp → Prop} (w : Walk J n G Y) {g : TG} {te : TE} {vs : List Nat} {σ : L2.St} {H1 : Hp} {D : Addr} {Qd : Hp → Prop} (hD : H1 D = none)
    (as : List α) (hn : n = as.length) (hsz : as.length ≤ sizeLine) (R : Hp → V → α → Prop) (hR : ∀ H H' v a, Tm H H' → R H v a → R H' v a) (hG : ∀ H, Same H1 H → G H)
    (ht : ∀ i a x H H' (C : VK), as[i]? = some a → Same H1 H → Y i H x H' → (∀ y H4, Same H H4 → R H4 y a → C y H4) → g x (wipe σ vs) H' fun σ2 H2 => wipe σ2 vs = wipe σ vs ∧ te σ2 H2 C)
    (hd : ∀ H us, Same H1 H → H D = some (.lst us) → Paired (R H) us as → Qd H) :
    ∃ Wk : Nat → Nat → Hp → Prop, (∃ k, Wk 0 k (upd H1 D (.lst []))) ∧ ∀ i k H, Wk i k H →
      (J.stop i H ∧ Qd H) ∨ (J.go i H ∧ ∃ Ny : Hp → Prop, (∀ H', Ny H' → ∃ k', k' < k ∧ Wk (i + 1) k' H') ∧ ∀ x H', J.yld i H x H' → g x (wipe σ vs) H' fun σ2 H2 => wipe σ2 vs = wipe σ vs ∧ tYes σ2 H2 fun b H3 =>
        if b = true then te σ2 H3 fun y H4 => ∃ us, H4 D = some (.lst us) ∧ us.length < sizeLine ∧ Ny (upd H4 D (.lst (us ++ [y]))) else Ny H3) := by
  refine lc_it w (Qd := Qd) (fun i H => Same H1 H ∧ ∃ us, H D = some (.lst us) ∧ Paired (R H) us (as.take i)) ⟨Same.new hD, [], upd_same, by rw [List.take_zero]; exact .nil⟩ (fun i H _ p => hG H p.1) ?_ ?_
  · rintro i x H H' hi ⟨e1, us, hus, hp⟩ hy
    rw [hn] at hi
    have ha : as[i]? = some as[i] := by simp [hi]
    refine ht i as[i] x H H' _ ha e1 hy fun y H4 e4 hr => ?_
    have hl : us.length = i := by
      rw [Paired.len hp, List.length_take]
      omega
    refine ⟨us, e4 _ _ hus, by omega, Same.mut (e1.trans e4) hD, us ++ [y], upd_same, ?_⟩
    rw [List.take_succ, ha]
    have t1 : Tm H (upd H4 D (.lst (us ++ [y]))) := Tm.set (Tm.of e4) (e4 _ _ hus)
    have t2 : Tm H4 (upd H4 D (.lst (us ++ [y]))) := Tm.set (Tm.refl _) (e4 _ _ hus)
    exact Paired.app (Paired.mapP hp fun v a z => hR _ _ v a t1 z) (.cons (hR _ _ _ _ t2 hr) .nil)
  · rintro H ⟨e1, us, hus, hp⟩
    rw [hn, List.take_length] at hp
    exact hd H us e1 hus hp
theorem paired_fn {α : Type} {f : α → V} : ∀ {us : List V} {as : List α}, Paired (fun v a => v = f a) us as → us = as.map f
  | _, _, .nil => rfl
  | _, _, .cons r t => by rw [List.map_cons, r, paired_fn t]
/-- .. of flat values -/
theorem lc_map {α : Type} {J : It} {n : Nat} {G : Hp → Prop} {Y : Nat → Hp → V → Hp → Prop} (w : Walk J n G Y) {g : TG} {te : TE} {vs : List Nat} {σ : L2.St} {H1 : Hp} {D : Addr} {Qd : Hp → Prop} (hD : H1 D = none)
    (as : List α) (hn : n = as.length) (hsz : as.length ≤ sizeLine) (f : α → V) (hG : ∀ H, Same H1 H → G H)
    (ht : ∀ i a x H H' (C : VK), as[i]? = some a → Same H1 H → Y i H x H' → (∀ H4, Same H H4 → C (f a) H4) → g x (wipe σ vs) H' fun σ2 H2 => wipe σ2 vs = wipe σ vs ∧ te σ2 H2 C)
    (hd : ∀ H, Same H1 H → H D = some (.lst (as.map f)) → Qd H) :
    ∃ Wk : Nat → Nat → Hp → Prop, (∃ k, Wk 0 k (upd H1 D (.lst []))) ∧ ∀ i k H, Wk i k H →
      (J.stop i H ∧ Qd H) ∨ (J.go i H ∧ ∃ Ny : Hp → Prop, (∀ H', Ny H' → ∃ k', k' < k ∧ Wk (i + 1) k' H') ∧ ∀ x H', J.yld i H x H' → g x (wipe σ vs) H' fun σ2 H2 => wipe σ2 vs = wipe σ vs ∧ tYes σ2 H2 fun b H3 =>
        if b = true then te σ2 H3 fun y H4 => ∃ us, H4 D = some (.lst us) ∧ us.length < sizeLine ∧ Ny (upd H4 D (.lst (us ++ [y]))) else Ny H3) :=
  lc_gen w hD as hn hsz (fun _ v a => v = f a) (fun _ _ _ _ _ h => h) hG (fun i a x H H' C ha e hy hC => ht i a x H H' C ha e hy fun H4 e4 => hC _ H4 e4 rfl) fun H us e hus hp => hd H e (by rw [hus, paired_fn hp])
theorem sV_map (ts : List T) : (ts.map S).map V.str = sV ts := by
  unfold sV
  rw [List.map_map]
  rfl
theorem sV_get {ts : List T} {i : Nat} {t : T} (h : ts[i]? = some t) : (sV ts)[i]? = some (V.str (S t)) := by
  unfold sV
  rw [List.getElem?_map, h]
  rfl
theorem iV_get {ns : List Int} {i : Nat} {n : Int} (h : ns[i]? = some n) : (iV ns)[i]? = some (V.int n) := by
  unfold iV
  rw [List.getElem?_map, h]
  rfl
theorem sV_len (ts : List T) : (sV ts).length = ts.length := List.length_map ..
theorem iV_len (ts : List Int) : (iV ts).length = ts.length := List.length_map ..
theorem sum_le {α : Type} (f : α → Nat) (b : Nat) : ∀ (l : List α), (∀ x ∈ l, f x ≤ b) → (l.map f).sum ≤ b * l.length
  | [], _ => by simp
  | x :: r, h => by
    have h1 := h x (List.mem_cons_self ..)
    have h2 := sum_le f b r fun y hy => h y (List.mem_cons_of_mem _ hy)
    rw [List.map_cons, List.sum_cons, List.length_cons, Nat.mul_succ]
    omega
theorem sum_S (ts : List T) : ((ts.map S).map (·.length)).sum = (ts.map List.length).sum := by
  rw [List.map_map]
  exact congrArg List.sum (List.map_congr_left fun t _ => S_len t)
theorem joinL_len (s : T) : ∀ ps : List T, (TL.joinL s ps).length ≤ (ps.map List.length).sum + ps.length * s.length
  | [] => by simp [TL.joinL]
  | [p] => by simp [TL.joinL]
  | p :: q :: r => by
    have ih := joinL_len s (q :: r)
    rw [joinL_cons (by simp), List.length_append, List.length_append, List.map_cons, List.sum_cons, List.length_cons, Nat.succ_mul]
    omega
/-- a joined list of texts -/
theorem join_it {K : Frag} {H : Hp} {Q : VK} {s : T} {p : Addr} {ts : List T} (h : SqL K H p (sV ts)) (hb : (ts.map List.length).sum + ts.length * s.length ≤ 16777216) (q : Q (.str (S (TL.joinL s ts))) H) : rJoin K (.str (S s)) [.ref p] H Q :=
  ⟨S s, p, ts.map S, rfl, rfl, .inl (by rw [sV_map]; exact h), by rw [sum_S, List.length_map, S_len]; exact hb, by rw [joinS]; exact q⟩
theorem SqL.of {K : Frag} {H : Hp} {a : Addr} {xs : List V} (h : H a = some (.lst xs)) : SqL K H a xs := .inl (.inl h)
theorem SqT.of {K : Frag} {H : Hp} {a : Addr} {xs : List V} (h : H a = some (.tup xs)) : SqT K H a xs := .inl (.inl h)
theorem Paired.atR {α β : Type} {F : α → β → Prop} : ∀ {xs : List α} {ys : List β} {i : Nat} {y : β}, Paired F xs ys → ys[i]? = some y → ∃ x, xs[i]? = some x ∧ F x y
  | _, _, _, _, .nil, e => by simp at e
  | _, _, 0, _, .cons r _, e => by
    have e1 := Option.some.inj e
    subst e1
    exact ⟨_, rfl, r⟩
  | _, _, i + 1, x, .cons _ t, e => by
    obtain ⟨y, h1, h2⟩ := Paired.atR (i := i) (y := x) t (by simpa using e)
    exact ⟨y, by simpa using h1, h2⟩
/-- an append as a statement -/
theorem app_do {K : Frag} {to te : TE} {D : Ends} {σ : L2.St} {H : Hp} (h : to σ H fun x H1 => ∃ l xs0, x = .ref l ∧ H1 l = some (.lst xs0) ∧ te σ H1 fun y H2 => ∃ xs, H2 l = some (.lst xs) ∧ xs.length < sizeLine ∧ D.nx σ (upd H2 l (.lst (xs ++ [y]))))
    (mono : ∀ {Q Q' : VK}, (∀ v H, Q v H → Q' v H) → to σ H Q → to σ H Q') (mono2 : ∀ {H} {Q Q' : VK}, (∀ v H, Q v H → Q' v H) → te σ H Q → te σ H Q') : tDrop (tBM K "list" rAppend to (tCons te tNil)) D σ H := by
  refine mono (fun x H1 z => ?_) h
  obtain ⟨l, xs0, rfl, h0, z⟩ := z
  refine ⟨.inl ⟨rfl, xs0, .of h0⟩, mono2 (fun y H2 z => ?_) z⟩
  obtain ⟨xs, h2, h3, q⟩ := z
  exact ⟨l, xs, y, rfl, rfl, h2, h3, q⟩
section
variable {A : Ad} {K : Frag} {w : World} {mg : Str → Option Value} {vs : List V} {H : Hp} {Q : VK} {E : XK}
theorem len_integer_between (h : sp_integer_between A K vs H Q E) : vs.length = 3 := by obtain ⟨_, _, _, rfl, _⟩ := h; rfl
theorem pure_integer_between (h : sp_integer_between A K vs H Q E) : t_integer_between A K w { nx := fun _ H' => Q .non H', rt := Q } (start N_integer_between vs) H := by
  obtain ⟨t, lo, hi, rfl, hl, q⟩ := h
  unfold between at q
  refine ⟨_, rfl, t, rfl, hl, ?_⟩
  cases e : intOf t with
  | none =>
    rw [e] at q
    exact ⟨_, rfl, rfl, true, rfl, q⟩
  | some n =>
    rw [e] at q
    refine ⟨_, rfl, rfl, false, rfl, ?_⟩
    refine ⟨_, rfl, _, rfl, _, _, rfl, rfl, _, rfl, itD (fun h1 => iteT ?_) (fun h1 => ?_)⟩
    · have q' : Q (ov (if n < lo ∨ n > hi then none else some n)) H := q
      rw [if_pos (.inl h1)] at q'
      exact q'
    refine ⟨_, rfl, _, rfl, _, _, rfl, rfl, _, rfl, itD (fun h2 => ?_) (fun h2 => ?_)⟩
    · have q' : Q (ov (if n < lo ∨ n > hi then none else some n)) H := q
      rw [if_pos (.inr h2)] at q'
      exact q'
    · have q' : Q (ov (if n < lo ∨ n > hi then none else some n)) H := q
      rw [if_neg (fun z => z.elim h1 h2)] at q'
      exact ⟨_, rfl, q'⟩
theorem len_word_of (h : sp_word_of A K vs H Q E) : vs.length = 1 := by obtain ⟨_, rfl, _⟩ := h; rfl
theorem pure_word_of (h : sp_word_of A K vs H Q E) : t_word_of A K w { nx := fun _ H' => Q .non H', rt := Q } (start N_word_of vs) H := by
  obtain ⟨t, rfl, hl, q⟩ := h
  have e0 : ("nil" : Str) = S (cs "nil") := lit _
  have em : ("@" : Str) = S [64] := lit _
  unfold wordOf at q
  refine ⟨_, rfl, rfl, _, rfl, ?_⟩
  rw [e0, dS]
  refine itD (fun h0 => ?_) (fun h0 => ?_)
  · rw [if_pos h0] at q
    exact q
  rw [if_neg h0] at q
  refine ⟨_, rfl, 1, rfl, _, rfl, szT hl, rfl, _, rfl, ?_⟩
  have c1 : cutS (S t) none (some 1) = S (t.take 1) := cutS_to t 1
  have c2 : cutS (S t) (some 1) none = S (t.drop 1) := cutS_from t 1
  rw [c1, em, dS]
  refine itD (fun hm => ?_) (fun hm => ?_)
  · rw [if_pos hm] at q
    refine ⟨_, rfl, 1, rfl, _, rfl, szT hl, t.drop 1, 0, 99999, by rw [c2]; rfl, by rw [List.length_drop]; omega, ?_⟩
    cases e : between (t.drop 1) 0 99999 with
    | none =>
      rw [e] at q
      exact ⟨_, rfl, rfl, true, rfl, q⟩
    | some n =>
      rw [e] at q
      exact ⟨_, rfl, rfl, false, rfl, _, rfl, _, _, rfl, rfl, n + 1, rfl, q⟩
  · rw [if_neg hm] at q
    refine ⟨_, rfl, t, -2147483648, 2147483647, rfl, hl, ?_⟩
    cases e : between t (-2147483648) 2147483647 with
    | none =>
      rw [e] at q
      exact ⟨_, rfl, rfl, true, rfl, q⟩
    | some n =>
      rw [e] at q
      obtain ⟨b1, b2, _⟩ := between_of e
      refine ⟨_, rfl, rfl, false, rfl, _, rfl, n, rfl, ?_⟩
      exact q
/-! words -/
theorem words_plain : ∀ ts : List T, (wordsOf ts = none → inV .non (ts.map fun t => ov (wordOf t)) = true) ∧ ∀ l, wordsOf ts = some l → inV .non (ts.map fun t => ov (wordOf t)) = false ∧ (ts.map fun t => ov (wordOf t)) = iV l
  | [] => ⟨fun h => (by cases h), fun l h => by
    have e : [] = l := Option.some.inj h
    subst e
    exact ⟨rfl, rfl⟩⟩
  | t :: r => by
    obtain ⟨i1, i2⟩ := words_plain r
    have ex : ∀ o : Option Int, inV .non (ov o :: r.map fun t => ov (wordOf t)) = (eqV (ov o) .non || inV .non (r.map fun t => ov (wordOf t))) := fun o => rfl
    unfold wordsOf
    rw [List.map_cons, ex]
    cases e : wordOf t with
    | none => exact ⟨fun _ => rfl, fun l h => by cases h⟩
    | some n =>
      cases e2 : wordsOf r with
      | none =>
        refine ⟨fun _ => ?_, fun l h => by cases h⟩
        rw [i1 e2, Bool.or_true]
      | some l' =>
        obtain ⟨j1, j2⟩ := i2 l' e2
        refine ⟨fun h => (by cases h), fun l h => ?_⟩
        have e3 : n :: l' = l := Option.some.inj h
        subst e3
        refine ⟨by rw [j1]; rfl, ?_⟩
        rw [j2]
        rfl
theorem flat_ov (ts : List T) : (ts.map fun t => ov (wordOf t)).all flatV = true := by
  rw [List.all_map]
  refine List.all_eq_true.mpr fun t _ => ?_
  show flatV (ov (wordOf t)) = true
  cases wordOf t <;> rfl
theorem len_words_of (h : sp_words_of A K vs H Q E) : vs.length = 1 := by obtain ⟨_, _, rfl, _⟩ := h; rfl
theorem pure_words_of (h : sp_words_of A K vs H Q E) : t_words_of A K w { nx := fun _ H' => Q .non H', rt := Q } (start N_words_of vs) H := by
  obtain ⟨v, ts, rfl, ⟨p, rfl, hq, hn, hb⟩, q⟩ := h
  refine ⟨_, rfl, p, rfl, ⟨_, hq⟩, fun D hD => ?_⟩
  refine lc_map (walk_list (xs := sV ts)) hD ts (sV_len ts) (szN hn) (fun t => ov (wordOf t)) (fun H1 e => smL e hq) ?_ ?_
  · rintro i t x H1 H2 C ha e ⟨rfl, hx⟩ hC
    rw [sV_get ha] at hx
    have hx := Option.some.inj hx
    subst hx
    exact ⟨rfl, _, rfl, t, rfl, hb t (List.mem_of_getElem? ha), hC _ (Same.refl _)⟩
  · intro H1 e hd
    obtain ⟨i1, i2⟩ := words_plain ts
    refine ⟨_, rfl, D, _, rfl, .inl (.of hd), rfl, flat_ov ts, _, rfl, ?_⟩
    cases e2 : wordsOf ts with
    | none =>
      show if (if false = true then _ else inV .non _) = true then _ else _
      rw [if_neg Bool.false_ne_true, i1 e2]
      exact q _ _ e (by rw [e2]; rfl)
    | some l =>
      obtain ⟨j1, j2⟩ := i2 l e2
      show if (if false = true then _ else inV .non _) = true then _ else _
      rw [if_neg Bool.false_ne_true, j1, if_neg Bool.false_ne_true]
      rw [j2] at hd
      exact ⟨_, rfl, D, _, rfl, .inl ⟨.of hd, fun u hu => q _ _ (Same.add e hu) (by rw [e2]; exact ⟨u, rfl, .of upd_same⟩)⟩⟩
theorem toks_drop {ts : List T} (n : Nat) : cutV (sV ts) (some (n : Int)) none = sV (ts.drop n) := by
  rw [cutV_from]
  unfold sV
  rw [List.map_drop]
theorem ToksAt.drop {H1 : Hp} {u : Addr} {ts : List T} {n : Nat} (hn : ts.length ≤ big + 10) (hb : ∀ t ∈ ts, t.length ≤ big + 10) (h : H1 u = some (.lst (sV (ts.drop n)))) : ToksAt K H1 (.ref u) (ts.drop n) :=
  ⟨u, rfl, .of h, by rw [List.length_drop]; omega, fun t ht => hb t (List.mem_of_mem_drop ht)⟩
theorem len_frame_content (h : sp_frame_content A K vs H Q E) : vs.length = 1 := by obtain ⟨_, _, rfl, _⟩ := h; rfl
theorem pure_frame_content (h : sp_frame_content A K vs H Q E) : t_frame_content A K w { nx := fun _ H' => Q .non H', rt := Q } (start N_frame_content vs) H := by
  obtain ⟨v, ts, rfl, ⟨p, rfl, hq, hn, hb⟩, q⟩ := h
  have no : frameC ts = none → Q .non H := fun e => q _ _ (Same.refl H) (by rw [e]; rfl)
  refine ⟨_, rfl, p, _, rfl, .inl hq, rfl, _, rfl, ?_⟩
  rw [sV_len, dI]
  refine itN (fun h1 => iteT (no ?_)) (fun h1 => ?_)
  · unfold frameC
    split
    · exact absurd rfl h1
    · rfl
  have h1' : ts.length = 3 := by omega
  match ts, h1', hb, hq, no, q with
  | [f, n, k], _, hb, hq, no, q =>
    refine ⟨_, rfl, p, _, 1, _, rfl, rfl, hq, atT (j := 1) rfl rfl, n, rfl, hb n (by simp), _, rfl, ?_⟩
    have ef : frameC [f, n, k] = if isName n = true then (match between k 0 199 with
      | none => none
      | some k => some (.fr n k)) else none := rfl
    cases e : isName n with
    | false =>
      rw [e, if_neg Bool.false_ne_true] at ef
      exact no ef
    | true =>
      rw [e, if_pos rfl] at ef
      refine ⟨_, rfl, p, _, 2, _, rfl, rfl, hq, atT (j := 2) rfl rfl, k, 0, 199, rfl, hb k (by simp), ?_⟩
      cases e2 : between k 0 199 with
      | none =>
        rw [e2] at ef
        exact ⟨_, rfl, rfl, true, rfl, no ef⟩
      | some j =>
        rw [e2] at ef
        refine ⟨_, rfl, rfl, false, rfl, _, rfl, p, _, 1, _, rfl, rfl, hq, atT (j := 1) rfl rfl, _, rfl, szN (n := 2) (Nat.le_refl _), fun u hu => q _ _ (Same.new hu) ?_⟩
        rw [ef]
        exact ⟨u, rfl, .of upd_same⟩
theorem len_object_content (h : sp_object_content A K vs H Q E) : vs.length = 1 := by obtain ⟨_, _, rfl, _⟩ := h; rfl
theorem pure_object_content (h : sp_object_content A K vs H Q E) : t_object_content A K w { nx := fun _ H' => Q .non H', rt := Q } (start N_object_content vs) H := by
  obtain ⟨v, ts, rfl, ⟨p, rfl, hq, hn, hb⟩, q⟩ := h
  have no : objectC ts = none → Q .non H := fun e => q _ _ (Same.refl H) (by rw [e]; rfl)
  refine ⟨_, rfl, p, _, rfl, .inl hq, _, _, rfl, rfl, _, rfl, ?_⟩
  rw [sV_len]
  refine itD (fun h1 => iteT (no ?_)) (fun h1 => ?_)
  · match ts, h1 with
    | [], _ => rfl
    | [_], _ => rfl
    | _ :: _ :: r, h1 => exact absurd h1 (by simp only [List.length_cons]; omega)
  match ts, h1, hb, hn, hq, no, q with
  | [], h1, _, _, _, _, _ => exact absurd (by decide) h1
  | [_], h1, _, _, _, _, _ => exact absurd (by show ((1 : Nat) : Int) < 2; decide) h1
  | f :: n :: ps, _, hb, hn, hq, no, q =>
    refine ⟨_, rfl, p, _, 1, _, rfl, rfl, hq, atT (j := 1) rfl rfl, n, rfl, hb n (by simp), _, rfl, ?_⟩
    have ef : objectC (f :: n :: ps) = if isName n = true then (match wordsOf ps with
      | none => none
      | some l => some (.ob n l)) else none := rfl
    cases e : isName n with
    | false =>
      rw [e, if_neg Bool.false_ne_true] at ef
      exact no ef
    | true =>
      rw [e, if_pos rfl] at ef
      refine ⟨_, rfl, 2, rfl, p, _, rfl, hq, fun u hu => ?_⟩
      have ec : cutV (sV (f :: n :: ps)) (some 2) none = sV ((f :: n :: ps).drop 2) := toks_drop 2
      rw [ec]
      refine ⟨_, _, rfl, ToksAt.drop hn hb upd_same, fun x H1 e1 hx => ?_⟩
      have e1' : Same H H1 := (Same.new hu).trans e1
      have hx' : OvW K H1 x (wordsOf ps) := hx
      cases e2 : wordsOf ps with
      | none =>
        rw [e2] at ef hx'
        have hx2 : x = .non := hx'
        subst hx2
        refine ⟨_, rfl, rfl, true, rfl, q _ _ e1' ?_⟩
        rw [ef]
        rfl
      | some l =>
        rw [e2] at ef hx'
        obtain ⟨a, rfl, ha⟩ := hx'
        refine ⟨_, rfl, rfl, false, rfl, _, rfl, p, _, 1, _, rfl, rfl, smL e1' hq, atT (j := 1) rfl rfl, _, rfl, szN (n := 2) (Nat.le_refl _), fun z hz => q _ _ (Same.add e1' hz) ?_⟩
        rw [ef]
        exact ⟨z, .ref a, rfl, .of upd_same, a, rfl, smT (Same.new hz) ha⟩
theorem len_line_content (h : sp_line_content A K vs H Q E) : vs.length = 1 := by obtain ⟨_, _, rfl, _⟩ := h; rfl
theorem pure_line_content (h : sp_line_content A K vs H Q E) : t_line_content A K w { nx := fun _ H' => Q .non H', rt := Q } (start N_line_content vs) H := by
  obtain ⟨v, ts, rfl, hT, hne, q⟩ := h
  have hT' := hT
  obtain ⟨p, rfl, hq, hn, hb⟩ := hT
  have e1 : ("frame" : Str) = S sFrame := lit _
  have e2 : ("object" : Str) = S sObject := lit _
  have e3 : ("static" : Str) = S sStatic := lit _
  cases ts with
  | nil => exact absurd rfl hne
  | cons f r =>
    have ef : lineC (f :: r) = if f = sFrame then frameC (f :: r) else if f = sObject then objectC (f :: r) else if f = sStatic ∧ (f :: r).length ≠ 2 then none else wordsC (f :: r) := rfl
    refine ⟨_, rfl, p, _, 0, _, rfl, rfl, hq, atT (j := 0) rfl rfl, rfl, _, rfl, ?_⟩
    rw [e1, dS]
    refine itD (fun h1 => ?_) (fun h1 => ?_)
    · rw [ef, if_pos h1] at q
      exact ⟨_, rfl, _, _, rfl, hT', q⟩
    rw [if_neg h1] at ef
    refine ⟨_, rfl, p, _, 0, _, rfl, rfl, hq, atT (j := 0) rfl rfl, rfl, _, rfl, ?_⟩
    rw [e2, dS]
    refine itD (fun h2 => ?_) (fun h2 => ?_)
    · rw [ef, if_pos h2] at q
      exact ⟨_, rfl, _, _, rfl, hT', q⟩
    rw [if_neg h2] at ef
    have rest : ¬ (f = sStatic ∧ (f :: r).length ≠ 2) → tRet (tCall (sp_words_of A K) [] E0 (tCons (tSl (rSlL K) (tVar 0) (tPart (tC (.int 1))) tNoPart) tNil)) { nx := fun _ H' => Q .non H', rt := Q } (start N_line_content [.ref p]) H := fun h3 => by
      rw [if_neg h3] at ef
      refine ⟨_, rfl, 1, rfl, p, _, rfl, hq, fun u hu => ?_⟩
      have ec : cutV (sV (f :: r)) (some 1) none = sV ((f :: r).drop 1) := toks_drop 1
      rw [ec]
      refine ⟨_, _, rfl, ToksAt.drop hn hb upd_same, fun x H1 e1 hx => ?_⟩
      refine q _ _ ((Same.new hu).trans e1) ?_
      have hx' : OvW K H1 x (wordsOf r) := hx
      rw [ef]
      unfold wordsC
      show OvC K H1 x (match wordsOf r with
        | none => none
        | some l => some (.ws l))
      cases e2 : wordsOf r with
      | none =>
        rw [e2] at hx'
        exact hx'
      | some l =>
        rw [e2] at hx'
        exact hx'
    refine ⟨_, rfl, p, _, 0, _, rfl, rfl, hq, atT (j := 0) rfl rfl, rfl, _, rfl, ?_⟩
    rw [e3, dS]
    refine itD (fun h3 => ?_) (fun h3 => ?_)
    · refine ⟨_, rfl, p, _, rfl, .inl hq, rfl, _, rfl, ?_⟩
      rw [sV_len, dI]
      refine itN (fun h4 => ?_) (fun h4 => ?_)
      · refine q _ _ (Same.refl H) ?_
        rw [ef, if_pos ⟨h3, fun z => h4 (by omega)⟩]
        rfl
      · exact rest fun z => z.2 (by omega)
    · exact rest fun z => h3 z.1
/-! writing -/
theorem len_word_text (h : sp_word_text A K vs H Q E) : vs.length = 1 := by obtain ⟨_, rfl, _⟩ := h; rfl
theorem strI_it {n : Int} (hb : n.natAbs < 10 ^ 10) (q : Q (.str (S (showI n))) H) : rStrI [.int n] H Q := by
  refine ⟨n, rfl, ?_, ?_⟩
  · have h1 : n.natAbs.log2 < 40 := by
      by_cases z : n.natAbs = 0
      · rw [z]; decide
      · exact (Nat.log2_lt z).mpr (by omega)
    omega
  · have e : (toString n : Str) = S (showI n) := showI_str n
    rw [e]
    exact q
theorem pure_word_text (h : sp_word_text A K vs H Q E) : t_word_text A K w { nx := fun _ H' => Q .non H', rt := Q } (start N_word_text vs) H := by
  obtain ⟨n, rfl, hv, q⟩ := h
  have e0 : ("nil" : Str) = S (cs "nil") := lit _
  have em : ("@" : Str) = S [64] := lit _
  unfold wtext at q
  refine ⟨_, rfl, rfl, _, rfl, ?_⟩
  rw [dI]
  refine itD (fun h0 => ?_) (fun h0 => ?_)
  · rw [if_pos h0] at q
    show Q (.str ("nil" : Str)) H
    rw [e0]
    exact q
  rw [if_neg h0] at q
  refine ⟨_, rfl, n, rfl, _, rfl, itD (fun h1 => ?_) (fun h1 => ?_)⟩
  · rw [if_pos h1] at q
    refine ⟨_, rfl, n, rfl, strI_it ?_ q⟩
    rcases hv with z | ⟨_, z1, z2⟩ | ⟨z, _⟩
    · exact absurd z h0
    · omega
    · omega
  · rw [if_neg h1] at q
    have hv2 : 0 ≤ n / 2 - 1 ∧ n / 2 - 1 ≤ 99999 := by
      rcases hv with z | ⟨z, _⟩ | ⟨_, z1, z2⟩
      · exact absurd z h0
      · exact absurd z h1
      · exact ⟨z1, z2⟩
    refine ⟨_, rfl, n, rfl, _, _, rfl, rfl, ?_⟩
    show rStrI [.int (n / 2 - 1)] H fun y H2 => rAddS (.str "@") y H2 Q
    refine strI_it (by omega) ?_
    have hl : (showI (n / 2 - 1)).length ≤ 11 := showI_len (by omega)
    refine ⟨_, _, rfl, rfl, ?_, ?_⟩
    · rw [em, S_len, S_len, sizeLine16]
      show 1 + _ ≤ _
      omega
    · rw [em, S_append]
      exact q
theorem wsum {ws : List Int} {f : T} (hv : ∀ w ∈ ws, VW w) (hf : f.length ≤ 100) (hw : ws.length ≤ big) : ((f :: ws.map wtext).map List.length).sum + (f :: ws.map wtext).length * 1 ≤ 14000000 := by
  rw [List.map_cons, List.sum_cons, List.length_cons, List.length_map, List.map_map]
  have z := sum_le (List.length ∘ wtext) 12 ws fun x hx => wtext_len (hv x hx)
  have : big = 1000000 := rfl
  omega
/-- the end of a line that is written: the list of its texts is at p -/
theorem line_end {f : T} {ws : List Int} {p : Addr} (hv : ∀ w ∈ ws, VW w) (hf : f.length ≤ 100) (hw : ws.length ≤ big) (h : H p = some (.lst (sV (f :: ws.map wtext)))) (q : Q (.str (S (lineT f ws))) H) :
    rJoin K (.str " ") [.ref p] H fun x H2 => rAddS x (.str "\n") H2 Q := by
  have e1 : (" " : Str) = S [32] := lit _
  have e2 : ("\n" : Str) = S [10] := lit _
  have hb := wsum hv hf hw
  have hj := joinL_len [32] (f :: ws.map wtext)
  have e3 : ([32] : T).length = 1 := rfl
  rw [e3] at hj
  rw [e1]
  refine join_it (.of h) (by rw [e3]; omega) ⟨_, _, rfl, rfl, ?_, ?_⟩
  · rw [e2, S_len, S_len, sizeLine16]
    show _ + 1 ≤ _
    omega
  · rw [e2, S_append]
    exact q
theorem len_line_text (h : sp_line_text A K vs H Q E) : vs.length = 2 := by obtain ⟨_, _, _, rfl, _⟩ := h; rfl
theorem pure_line_text (h : sp_line_text A K vs H Q E) : t_line_text A K w { nx := fun _ H' => Q .non H', rt := Q } (start N_line_text vs) H := by
  obtain ⟨f, v, ws, rfl, ⟨a, rfl, ha⟩, hv, hf, hw, q⟩ := h
  refine ⟨⟨_, rfl⟩, _, rfl, szN (n := 1) (Nat.le_refl _), fun p hp => ?_⟩
  refine ⟨_, rfl, a, rfl, ⟨_, smT (Same.new hp) ha⟩, fun D hD => ?_⟩
  refine lc_map (walk_tup (xs := iV ws)) hD ws (iV_len ws) (szN hw) (fun w => .str (S (wtext w))) (fun H1 e => smT e (smT (Same.new hp) ha)) ?_ ?_
  · rintro i n x H1 H2 C hn e ⟨rfl, hx⟩ hC
    rw [iV_get hn] at hx
    have hx := Option.some.inj hx
    subst hx
    exact ⟨rfl, _, rfl, n, rfl, hv n (List.mem_of_getElem? hn), hC _ (Same.refl _)⟩
  · intro H1 e hd
    refine ⟨p, D, _, _, rfl, rfl, e _ _ upd_same, hd, ?_, fun z hz => ?_⟩
    · rw [List.length_map]
      exact szN (n := big + 1) (by show 1 + _ ≤ _; omega)
    · refine line_end hv hf hw (p := z) ?_ (q _ (Same.add ((Same.new hp).trans e) hz))
      rw [upd_same]
      unfold sV
      rw [List.map_cons, List.map_map]
      rfl
end
end Qb

/-! Kp3 -/
set_option Elab.async false
set_option linter.all false
set_option maxRecDepth 100000
set_option maxHeartbeats 2000000
/-! Readings: a picture is written; the law's own text. -/
namespace Qb
open PySem PySem.Spec PyProof.Rows L2
def wl (it : Item) : T := line it ++ [10]
theorem joinL_nil : ∀ ls : List T, TL.joinL [] ls = ls.flatten
  | [] => rfl
  | [p] => by
    show p = _
    simp
  | p :: q :: r => by
    rw [joinL_cons (by simp), joinL_nil (q :: r)]
    simp
theorem flat_wl (r : List Item) : TL.joinL [] (r.map wl) = rend r := by
  rw [joinL_nil]
  unfold rend
  rw [List.flatMap_def]
  rfl
theorem sum_wl : ∀ r : List Item, ((r.map wl).map List.length).sum = (rend r).length
  | [] => rfl
  | it :: r => by
    have ih := sum_wl r
    rw [rend_cons, List.length_append, List.map_cons, List.map_cons, List.sum_cons, ih]
    rfl
theorem catL {x y : Str} {a b : T} (ha : x = S a) (hb : y = S b) (h : a.length + b.length ≤ 16000000) : x.length + y.length ≤ sizeLine := by
  subst ha hb
  rw [S_len, S_len, sizeLine16]
  omega
theorem catE {x y : Str} {a b : T} (ha : x = S a) (hb : y = S b) : x ++ y = S (a ++ b) := by
  subst ha hb
  rw [S_append]
theorem strL {n : Int} (hb : n.natAbs < 10 ^ 10) : n.natAbs.log2 < 1920 := by
  have h1 : n.natAbs.log2 < 40 := by
    by_cases z : n.natAbs = 0
    · rw [z]; decide
    · exact (Nat.log2_lt z).mpr (by omega)
  omega
theorem wl_static (w : Int) : lineT sStatic [w] = wl (itS w) := rfl
theorem wl_words (f : T) (ws : List Int) : lineT f ws = wl (f, .ws ws) := rfl
theorem wl_object (n : T) (ws : List Int) : lineT (cs "object " ++ n) ws = wl (sObject, .ob n ws) := by
  show TL.joinL [32] ((cs "object " ++ n) :: ws.map wtext) ++ [10] = TL.joinL [32] (sObject :: n :: ws.map wtext) ++ [10]
  have e : cs "object " = sObject ++ [32] := by decide +kernel
  cases ws with
  | nil =>
    show (cs "object " ++ n) ++ [10] = (sObject ++ ([32] ++ n)) ++ [10]
    rw [e]
    simp
  | cons a r =>
    rw [List.map_cons, joinL_cons (p := cs "object " ++ n) (by simp), joinL_cons (p := sObject) (by simp), joinL_cons (p := n) (by simp), e]
    simp
theorem wl_frame (n : T) (p : Int) : (((cs "frame " ++ n) ++ [32]) ++ showI p) ++ [10] = wl (sFrame, .fr n p) := by
  have e : cs "frame " = sFrame ++ [32] := by decide +kernel
  show _ = TL.joinL [32] [sFrame, n, showI p] ++ [10]
  rw [joinL_cons (by simp), joinL_cons (by simp), e]
  show _ = sFrame ++ ([32] ++ (n ++ ([32] ++ showI p))) ++ [10]
  simp
theorem sV_app (a b : List T) : sV a ++ sV b = sV (a ++ b) := by
  unfold sV
  rw [List.map_append]
theorem sV_snoc (L : List Item) (it : Item) {t : T} (e : t = wl it) : sV (L.map wl) ++ [V.str (S t)] = sV ((L ++ [it]).map wl) := by
  rw [List.map_append, ← sV_app, e]
  rfl
theorem rend_len (D : Pic) : (items D).length = D.statics.length + 3 * D.frames.length + 2 + D.objs.length := by
  have hf : ∀ fs : List Fm, (fs.flatMap itF).length = 3 * fs.length := fun fs => by
    induction fs with
    | nil => rfl
    | cons f r ih =>
      rw [List.flatMap_cons, List.length_append, ih, List.length_cons]
      show 3 + _ = _
      omega
  unfold items itemsF itemsW
  simp only [List.length_append, List.length_map, List.length_cons, hf]
  omega
theorem small_of {D : Pic} {n : Nat} (h : (render D).length ≤ n) : D.statics.length + 3 * D.frames.length + 2 + D.objs.length ≤ n ∧ D.watched.length ≤ n ∧ D.parted.length ≤ n ∧ (∀ f ∈ D.frames, f.slots.length ≤ n ∧ f.stack.length ≤ n) ∧ ∀ o ∈ D.objs, o.pay.length ≤ n := by
  have h0 := rend_ge (items D)
  rw [rend_len] at h0
  have h1 : ∀ it ∈ items D, (line it).length ≤ n := fun it hi => by
    have := rend_mem hi
    have e : (rend (items D)).length = (render D).length := rfl
    omega
  have mF : ∀ f ∈ D.frames, ∀ it ∈ itF f, it ∈ items D := fun f hf it hi => by
    unfold items itemsF
    exact List.mem_append_right _ (List.mem_append_left _ (List.mem_flatMap.mpr ⟨f, hf, hi⟩))
  have mW : ∀ it ∈ itemsW D.watched D.parted D.objs, it ∈ items D := fun it hi => by
    unfold items itemsF
    exact List.mem_append_right _ (List.mem_append_right _ hi)
  refine ⟨by have e : (rend (items D)).length = (render D).length := rfl; omega, ?_, ?_, fun f hf => ⟨?_, ?_⟩, fun o ho => ?_⟩
  · have := line_ws_ge sWatched D.watched
    have := h1 _ (mW (sWatched, .ws D.watched) (by unfold itemsW; simp))
    omega
  · have := line_ws_ge sParted D.parted
    have := h1 _ (mW (sParted, .ws D.parted) (by unfold itemsW; simp))
    omega
  · have := line_ws_ge sSlots f.slots
    have := h1 _ (mF f hf (sSlots, .ws f.slots) (by unfold itF; simp))
    omega
  · have := line_ws_ge sStack f.stack
    have := h1 _ (mF f hf (sStack, .ws f.stack) (by unfold itF; simp))
    omega
  · have := line_ob_ge sObject o.name o.pay
    have := h1 _ (mW (sObject, .ob o.name o.pay) (by unfold itemsW; simp only [List.mem_cons, List.mem_map]; exact .inr (.inr ⟨o, ho, rfl⟩)))
    omega
theorem look1 {v1 v2 v3 v4 v5 : V} : (picF v1 v2 v3 v4 v5).lookup ("statics" : Str) = some v1 := by rfl
theorem look2 {v1 v2 v3 v4 v5 : V} : (picF v1 v2 v3 v4 v5).lookup ("frames" : Str) = some v2 := by rfl
theorem look3 {v1 v2 v3 v4 v5 : V} : (picF v1 v2 v3 v4 v5).lookup ("watched" : Str) = some v3 := by rfl
theorem look4 {v1 v2 v3 v4 v5 : V} : (picF v1 v2 v3 v4 v5).lookup ("parted" : Str) = some v4 := by rfl
theorem look5 {v1 v2 v3 v4 v5 : V} : (picF v1 v2 v3 v4 v5).lookup ("objects" : Str) = some v5 := by rfl
section
variable {A : Ad} {K : Frag} {w : World} {mg : Str → Option Value} {vs : List V} {H : Hp} {Q : VK} {E : XK}
theorem len_write_image (h : sp_write_image A K vs H Q E) : vs.length = 1 := by obtain ⟨_, _, rfl, _⟩ := h; rfl
theorem pure_write_image (T : Txt K mg w A) (h : sp_write_image A K vs H Q E) : t_write_image A K w { nx := fun _ H' => Q .non H', rt := Q } (start N_write_image vs) H := by
  obtain ⟨p, D, rfl, ⟨dx, v1, v2, v3, v4, v5, hp, ⟨a1, rfl, s1⟩, ⟨a2, us2, rfl, s2, p2⟩, h3, h4, ⟨a5, us5, rfl, s5, p5⟩⟩, hv, hr, q⟩ := h
  obtain ⟨z0, z1, z2, z3, z4⟩ := small_of hr
  have eb : big = 1000000 := rfl
  refine ⟨_, rfl, p, A.C, dx, _, _, rfl, hp, T.cls, T.nS, look1, a1, rfl, ⟨_, s1⟩, fun l hl => ?_⟩
  refine lc_map (walk_tup (xs := iV D.statics)) hl D.statics (iV_len _) (szN (n := big) (by omega)) (fun w => .str (S (wl (itS w)))) (fun H1 e => smT e s1) ?_ ?_
  · rintro i n x H1 H2 C hn e ⟨rfl, hx⟩ hC
    rw [iV_get hn] at hx
    have hx := Option.some.inj hx
    subst hx
    refine ⟨rfl, _, rfl, szN (n := 1) (Nat.le_refl _), fun u hu => ?_⟩
    refine ⟨sStatic, _, [n], ?_, ⟨u, rfl, .of upd_same⟩, fun w hw => ?_, by decide, by show 1 ≤ big; decide, fun H4 e4 => hC _ ((Same.new hu).trans e4)⟩
    · show [V.str ("static" : Str), .ref u] = _
      rw [lit]
      rfl
    · rw [List.mem_singleton.mp hw]
      exact hv.st n (List.mem_of_getElem? hn)
  intro H1 e hd
  have hd : H1 l = some (.lst (sV ((D.statics.map itS).map wl))) := by
    rw [hd]
    unfold sV
    rw [List.map_map, List.map_map]
    rfl
  refine ⟨_, rfl, p, A.C, dx, _, _, rfl, e _ _ hp, T.cls, T.nF, look2, a2, rfl, ⟨_, smT e s2⟩, ?_⟩
  refine for_it (walk_tup (xs := us2)) (fun i σ H' => Same H H' ∧ H' l = some (.lst (sV ((D.statics.map itS ++ (D.frames.take i).flatMap itF).map wl))) ∧ ∃ x2 x3 x4 x5, σ = [some (.ref p), some (.ref l), x2, x3, x4, x5, none, none, none])
    ⟨e, by simpa using hd, _, _, _, _, rfl⟩ (fun i σ H' _ z => smT z.1 s2) ?_ ?_
  · rintro i x σ H2x H2 hi ⟨e2, hl2, x2, x3, x4, x5, rfl⟩ ⟨rfl, hx⟩
    obtain ⟨f, hf, a, s, t, rfl, sq, ws, wt⟩ := Paired.at p2 hx
    have hfm : f ∈ D.frames := List.mem_of_getElem? hf
    obtain ⟨f1, f2, f3, f4, f5⟩ := hv.fr f hfm
    have hilt : i < D.frames.length := by rw [← Paired.len p2]; exact hi
    have tk : (D.frames.take (i + 1)).flatMap itF = (D.frames.take i).flatMap itF ++ itF f := by
      rw [List.take_succ, hf, List.flatMap_append]
      simp
    generalize hL : D.statics.map itS ++ (D.frames.take i).flatMap itF = L at hl2
    have hLn : L.length ≤ 900000 + big := by
      have hff : ((D.frames.take i).flatMap itF).length ≤ 3 * D.frames.length := by
        have : ∀ fs : List Fm, (fs.flatMap itF).length = 3 * fs.length := fun fs => by
          induction fs with
          | nil => rfl
          | cons f r ih =>
            rw [List.flatMap_cons, List.length_append, ih, List.length_cons]
            show 3 + _ = _
            omega
        rw [this, List.length_take]
        omega
      rw [← hL, List.length_append, List.length_map]
      omega
    refine ⟨a, _, rfl, smT e2 sq, rfl, _, _, rfl, _, _, rfl, _, _, rfl, _, _, rfl, rfl, ?_⟩
    have n16 : f.name.length ≤ 16 := isName_len f1
    have pl : (showI f.place).length ≤ 11 := showI_len (by omega)
    have c6 : (cs "frame ").length = 6 := by decide
    refine ⟨_, rfl, .inl ⟨rfl, _, .of hl2⟩, _, rfl, ?_⟩
    refine ⟨_, _, rfl, rfl, catL (lit "frame ") rfl (by rw [c6]; omega), ?_⟩
    rw [catE (lit "frame ") rfl]
    refine ⟨_, _, rfl, rfl, catL rfl (show (" " : Str) = S [32] from lit _) (by rw [List.length_append, c6]; show _ + 1 ≤ _; omega), ?_⟩
    rw [catE rfl (show (" " : Str) = S [32] from lit _)]
    refine ⟨_, rfl, _, rfl, strL (by omega), ?_⟩
    rw [showI_str]
    refine ⟨_, _, rfl, rfl, catL rfl rfl (by rw [List.length_append, List.length_append, c6]; show _ + 1 + _ ≤ _; omega), ?_⟩
    rw [catE rfl rfl]
    refine ⟨_, _, rfl, rfl, catL rfl (show ("\n" : Str) = S [10] from lit _) (by rw [List.length_append, List.length_append, List.length_append, c6]; show _ + 1 + _ + 1 ≤ _; omega), ?_⟩
    rw [catE rfl (show ("\n" : Str) = S [10] from lit _)]
    refine ⟨l, _, _, rfl, rfl, hl2, by rw [sV_len, List.length_map]; exact szL (n := 2000000) (by omega), ?_⟩
    rw [sV_snoc L _ (wl_frame f.name f.place)]
    -- slots
    have e3 := Same.mut (o := .lst (sV ((L ++ [(sFrame, Ct.fr f.name f.place)]).map wl))) e2 hl
    generalize hH3 : upd H2 l (.lst (sV ((L ++ [(sFrame, Ct.fr f.name f.place)]).map wl))) = H3 at e3
    have hl3 : H3 l = some (.lst (sV ((L ++ [(sFrame, Ct.fr f.name f.place)]).map wl))) := by rw [← hH3, upd_same]
    refine ⟨_, rfl, .inl ⟨rfl, _, .of hl3⟩, _, rfl, sSlots, _, f.slots, ?_, ws.mono (Tm.of e3), f4, by decide, (by have := (z3 f hfm).1; omega), fun H4 e4 => ?_⟩
    · show [V.str ("slots" : Str), s] = _
      rw [lit]
      rfl
    have hl4 := e4 _ _ hl3
    refine ⟨l, _, _, rfl, rfl, hl4, by rw [sV_len, List.length_map, List.length_append]; exact szL (n := 2000000) (by show L.length + 1 ≤ _; omega), ?_⟩
    rw [sV_snoc _ _ (wl_words sSlots f.slots)]
    have e5 := Same.mut (o := .lst (sV (((L ++ [(sFrame, Ct.fr f.name f.place)]) ++ [(sSlots, Ct.ws f.slots)]).map wl))) (e3.trans e4) hl
    generalize hH5 : upd H4 l (.lst (sV (((L ++ [(sFrame, Ct.fr f.name f.place)]) ++ [(sSlots, Ct.ws f.slots)]).map wl))) = H5 at e5
    have hl5 : H5 l = some (.lst (sV (((L ++ [(sFrame, Ct.fr f.name f.place)]) ++ [(sSlots, Ct.ws f.slots)]).map wl))) := by rw [← hH5, upd_same]
    refine ⟨_, rfl, .inl ⟨rfl, _, .of hl5⟩, _, rfl, sStack, _, f.stack, ?_, wt.mono (Tm.of e5), f5, by decide, (by have := (z3 f hfm).2; omega), fun H6 e6 => ?_⟩
    · show [V.str ("stack" : Str), t] = _
      rw [lit]
      rfl
    have hl6 := e6 _ _ hl5
    refine ⟨l, _, _, rfl, rfl, hl6, by rw [sV_len, List.length_map, List.length_append, List.length_append]; exact szL (n := 2000000) (by show L.length + 1 + 1 ≤ _; omega), ?_⟩
    rw [sV_snoc _ _ (wl_words sStack f.stack)]
    refine ⟨Same.mut (e5.trans e6) hl, ?_, _, _, _, _, rfl⟩
    rw [upd_same, tk, ← List.append_assoc, hL]
    rw [show itF f = [(sFrame, Ct.fr f.name f.place)] ++ [(sSlots, Ct.ws f.slots)] ++ [(sStack, Ct.ws f.stack)] from rfl]
    rw [← List.append_assoc, ← List.append_assoc]
  · rintro σ H2 ⟨e2, hl2, x2, x3, x4, x5, rfl⟩
    rw [Paired.len p2, List.take_length] at hl2
    generalize hL : D.statics.map itS ++ D.frames.flatMap itF = L at hl2
    have hLn : L.length + D.objs.length + 2 ≤ big := by
      have h0 := rend_len D
      have h1 : (items D).length = (L ++ itemsW D.watched D.parted D.objs).length := by
        rw [← hL]
        unfold items itemsF
        rw [List.append_assoc]
      rw [h1, List.length_append] at h0
      have h2 : (itemsW D.watched D.parted D.objs).length = 2 + D.objs.length := by
        unfold itemsW
        simp only [List.length_cons, List.length_map]
        omega
      omega
    -- watched
    refine ⟨_, rfl, .inl ⟨rfl, _, .of hl2⟩, _, rfl, p, A.C, dx, _, _, rfl, e2 _ _ hp, T.cls, T.nW, look3, sWatched, _, D.watched, ?_, h3.mono (Tm.of e2), hv.wa, by decide, (by omega), fun H4 e4 => ?_⟩
    · show [V.str ("watched" : Str), v3] = _
      rw [lit]
      rfl
    have hl4 := e4 _ _ hl2
    refine ⟨l, _, _, rfl, rfl, hl4, by rw [sV_len, List.length_map]; exact szL (n := 2000000) (by omega), ?_⟩
    rw [sV_snoc _ _ (wl_words sWatched D.watched)]
    have e5 := Same.mut (o := .lst (sV ((L ++ [(sWatched, Ct.ws D.watched)]).map wl))) (e2.trans e4) hl
    generalize hH5 : upd H4 l (.lst (sV ((L ++ [(sWatched, Ct.ws D.watched)]).map wl))) = H5 at e5
    have hl5 : H5 l = some (.lst (sV ((L ++ [(sWatched, Ct.ws D.watched)]).map wl))) := by rw [← hH5, upd_same]
    -- parted
    refine ⟨_, rfl, .inl ⟨rfl, _, .of hl5⟩, _, rfl, p, A.C, dx, _, _, rfl, e5 _ _ hp, T.cls, T.nP, look4, sParted, _, D.parted, ?_, h4.mono (Tm.of e5), hv.pa, by decide, (by omega), fun H6 e6 => ?_⟩
    · show [V.str ("parted" : Str), v4] = _
      rw [lit]
      rfl
    have hl6 := e6 _ _ hl5
    refine ⟨l, _, _, rfl, rfl, hl6, by rw [sV_len, List.length_map, List.length_append]; exact szL (n := 2000000) (by show _ + 1 ≤ _; omega), ?_⟩
    rw [sV_snoc _ _ (wl_words sParted D.parted)]
    have e7 := Same.mut (o := .lst (sV (((L ++ [(sWatched, Ct.ws D.watched)]) ++ [(sParted, Ct.ws D.parted)]).map wl))) (e5.trans e6) hl
    generalize hH7 : upd H6 l (.lst (sV (((L ++ [(sWatched, Ct.ws D.watched)]) ++ [(sParted, Ct.ws D.parted)]).map wl))) = H7 at e7
    have hl7 : H7 l = some (.lst (sV (((L ++ [(sWatched, Ct.ws D.watched)]) ++ [(sParted, Ct.ws D.parted)]).map wl))) := by rw [← hH7, upd_same]
    have hM : D.statics.map itS ++ (D.frames.flatMap itF ++ itemsW D.watched D.parted D.objs) = ((L ++ [(sWatched, Ct.ws D.watched)]) ++ [(sParted, Ct.ws D.parted)]) ++ D.objs.map itO := by
      rw [← hL]
      unfold itemsW
      simp
    generalize hL2 : (L ++ [(sWatched, Ct.ws D.watched)]) ++ [(sParted, Ct.ws D.parted)] = M at hl7 hM
    have hMn : M.length + D.objs.length ≤ big := by
      rw [← hL2, List.length_append, List.length_append]
      show L.length + 1 + 1 + _ ≤ _
      omega
    refine ⟨_, rfl, p, A.C, dx, _, _, rfl, e7 _ _ hp, T.cls, T.nO, look5, a5, rfl, ⟨_, smT e7 s5⟩, ?_⟩
    refine for_it (walk_tup (xs := us5)) (fun i σ H' => Same H H' ∧ H' l = some (.lst (sV ((M ++ (D.objs.take i).map itO).map wl))) ∧ ∃ x2 x3 x4 x5 x6 x7, σ = [some (.ref p), some (.ref l), x2, x3, x4, x5, x6, x7, none])
      ⟨e7, by simpa using hl7, _, _, _, _, _, _, rfl⟩ (fun i σ H' _ z => smT z.1 s5) ?_ ?_
    · rintro i x σ H8x H8 hi ⟨e8, hl8, x2, x3, x4, x5, x6, x7, rfl⟩ ⟨rfl, hx⟩
      obtain ⟨o, ho, a, s, rfl, sq, ws⟩ := Paired.at p5 hx
      have hom : o ∈ D.objs := List.mem_of_getElem? ho
      obtain ⟨f1, f2⟩ := hv.ob o hom
      have n16 : o.name.length ≤ 16 := isName_len f1
      have c7 : (cs "object ").length = 7 := by decide
      refine ⟨a, _, rfl, smT e8 sq, rfl, _, _, rfl, _, _, rfl, rfl, ?_⟩
      refine ⟨_, rfl, .inl ⟨rfl, _, .of hl8⟩, _, rfl, ?_⟩
      refine ⟨_, _, rfl, rfl, catL (lit "object ") rfl (by rw [c7]; omega), ?_⟩
      rw [catE (lit "object ") rfl]
      refine ⟨_, rfl, cs "object " ++ o.name, _, o.pay, rfl, ws.mono (Tm.of e8), f2, by rw [List.length_append, c7]; omega, (by have := z4 o hom; omega), fun H10 e10 => ?_⟩
      have hl10 := e10 _ _ hl8
      refine ⟨l, _, _, rfl, rfl, hl10, ?_, ?_⟩
      · rw [sV_len, List.length_map, List.length_append, List.length_map, List.length_take]
        exact szL (n := 2000000) (by omega)
      rw [sV_snoc _ _ (wl_object o.name o.pay)]
      refine ⟨Same.mut (e8.trans e10) hl, ?_, _, _, _, _, _, _, rfl⟩
      have tk : (D.objs.take (i + 1)).map itO = (D.objs.take i).map itO ++ [itO o] := by
        rw [List.take_succ, ho, List.map_append]
        rfl
      rw [upd_same, tk, ← List.append_assoc]
      rfl
    · rintro σ H8 ⟨e8, hl8, x2, x3, x4, x5, x6, x7, rfl⟩
      rw [Paired.len p5, List.take_length, ← hM] at hl8
      refine ⟨⟨_, rfl⟩, _, rfl, ?_⟩
      have es : ("" : Str) = S [] := lit _
      rw [es]
      have hm : ((D.statics.map itS ++ (D.frames.flatMap itF ++ itemsW D.watched D.parted D.objs))) = items D := rfl
      rw [hm] at hl8
      refine join_it (.of hl8) ?_ ?_
      · rw [sum_wl]
        have e : (rend (items D)).length = (render D).length := rfl
        rw [e, List.length_nil, Nat.mul_zero]
        omega
      · rw [flat_wl]
        exact q _ e8
end
end Qb

/-! Kp4 -/
set_option Elab.async false
set_option linter.all false
set_option maxRecDepth 100000
set_option maxHeartbeats 2000000
/-! Readings: the law's own text of a picture. -/
namespace Qb
open PySem PySem.Spec PyProof.Rows L2
section
variable {A : Ad} {K : Frag} {w : World} {mg : Str → Option Value} {vs : List V} {H : Hp} {Q : VK} {E : XK}
theorem len__law_said (h : sp__law_said A K vs H Q E) : vs.length = 1 := by obtain ⟨_, rfl, _⟩ := h; rfl
theorem pure__law_said (h : sp__law_said A K vs H Q E) : t__law_said A K w { nx := fun _ H' => Q .non H', rt := Q } (start N__law_said vs) H := by
  obtain ⟨n, rfl, hv, q⟩ := h
  have e0 : ("nil" : Str) = S (cs "nil") := lit _
  have em : ("@" : Str) = S [64] := lit _
  unfold wtext at q
  refine ⟨_, rfl, rfl, _, rfl, ?_⟩
  rw [dI]
  refine itD (fun h0 => ?_) (fun h0 => ?_)
  · rw [if_pos h0] at q
    show Q (.str ("nil" : Str)) H
    rw [e0]
    exact q
  rw [if_neg h0] at q
  refine ⟨_, rfl, _, rfl, _, _, rfl, rfl, (by show (0 : Int) < 2; decide), rfl, _, rfl, ?_⟩
  rw [dI]
  refine itD (fun h1 => ?_) (fun h1 => ?_)
  · rw [if_pos h1] at q
    refine ⟨_, rfl, _, _, rfl, rfl, _, _, rfl, rfl, ⟨by decide, by decide⟩, _, rfl, strL ?_, ?_⟩
    · rcases hv with z | ⟨_, z1, z2⟩ | ⟨z, _⟩
      · exact absurd z h0
      · omega
      · omega
    · rw [showI_str]
      exact q
  · rw [if_neg h1] at q
    have hv2 : 0 ≤ n / 2 - 1 ∧ n / 2 - 1 ≤ 99999 := by
      rcases hv with z | ⟨z, _⟩ | ⟨_, z1, z2⟩
      · exact absurd z h0
      · exact absurd z h1
      · exact ⟨z1, z2⟩
    have hl : (showI (n / 2 - 1)).length ≤ 11 := showI_len (by omega)
    refine ⟨_, rfl, _, _, rfl, rfl, ⟨by decide, by decide⟩, _, _, rfl, rfl, _, rfl, strL (by omega), ?_⟩
    rw [showI_str]
    refine ⟨_, _, rfl, rfl, catL em rfl (by show 1 + _ ≤ _; omega), ?_⟩
    rw [catE em rfl]
    exact q
theorem len__law_line (h : sp__law_line A K vs H Q E) : vs.length = 2 := by obtain ⟨_, _, _, rfl, _⟩ := h; rfl
theorem pure__law_line (h : sp__law_line A K vs H Q E) : t__law_line A K w { nx := fun _ H' => Q .non H', rt := Q } (start N__law_line vs) H := by
  obtain ⟨f, a, ws, rfl, ha, hv, hf, hw, q⟩ := h
  refine ⟨⟨_, rfl⟩, _, rfl, szN (n := 1) (Nat.le_refl _), fun p hp => ?_⟩
  rcases ha with ha | ha
  · refine .inl ⟨_, rfl, a, rfl, ⟨_, smL (Same.new hp) ha⟩, fun D hD => ?_⟩
    refine lc_map (walk_list (xs := iV ws)) hD ws (iV_len ws) (szN hw) (fun w => .str (S (wtext w))) (fun H1 e => smL e (smL (Same.new hp) ha)) ?_ ?_
    · rintro i n x H1 H2 C hn e ⟨rfl, hx⟩ hC
      rw [iV_get hn] at hx
      have hx := Option.some.inj hx
      subst hx
      exact ⟨rfl, _, rfl, n, rfl, hv n (List.mem_of_getElem? hn), hC _ (Same.refl _)⟩
    · intro H1 e hd
      refine ⟨p, D, _, _, rfl, rfl, e _ _ upd_same, hd, ?_, fun z hz => ?_⟩
      · rw [List.length_map]
        exact szN (n := big + 1) (by show 1 + _ ≤ _; omega)
      · refine line_end hv hf hw (p := z) ?_ (q _ (Same.add ((Same.new hp).trans e) hz))
        rw [upd_same]
        unfold sV
        rw [List.map_cons, List.map_map]
        rfl
  · refine .inr ⟨_, rfl, a, rfl, ⟨_, smT (Same.new hp) ha⟩, fun D hD => ?_⟩
    refine lc_map (walk_tup (xs := iV ws)) hD ws (iV_len ws) (szN hw) (fun w => .str (S (wtext w))) (fun H1 e => smT e (smT (Same.new hp) ha)) ?_ ?_
    · rintro i n x H1 H2 C hn e ⟨rfl, hx⟩ hC
      rw [iV_get hn] at hx
      have hx := Option.some.inj hx
      subst hx
      exact ⟨rfl, _, rfl, n, rfl, hv n (List.mem_of_getElem? hn), hC _ (Same.refl _)⟩
    · intro H1 e hd
      refine ⟨p, D, _, _, rfl, rfl, e _ _ upd_same, hd, ?_, fun z hz => ?_⟩
      · rw [List.length_map]
        exact szN (n := big + 1) (by show 1 + _ ≤ _; omega)
      · refine line_end hv hf hw (p := z) ?_ (q _ (Same.add ((Same.new hp).trans e) hz))
        rw [upd_same]
        unfold sV
        rw [List.map_cons, List.map_map]
        rfl
theorem WT.sq {v : V} {ws : List Int} (h : WT K H v ws) : ∃ a, v = .ref a ∧ SqA K H a (iV ws) := let ⟨a, e, z⟩ := h; ⟨a, e, .inr z⟩
theorem len__law_text (h : sp__law_text A K vs H Q E) : vs.length = 1 := by obtain ⟨_, _, rfl, _⟩ := h; rfl
theorem pure__law_text (h : sp__law_text A K vs H Q E) : t__law_text A K w { nx := fun _ H' => Q .non H', rt := Q } (start N__law_text vs) H := by
  obtain ⟨v, D, rfl, ⟨p, v1, v2, v3, v4, v5, rfl, hp, ⟨a1, rfl, s1⟩, ⟨a2, us2, rfl, s2, p2⟩, h3, h4, ⟨a5, us5, rfl, s5, p5⟩⟩, hv, hr, q⟩ := h
  obtain ⟨a3, rfl, h3⟩ := h3
  obtain ⟨a4, rfl, h4⟩ := h4
  obtain ⟨z0, z1, z2, z3, z4⟩ := small_of hr
  have eb : big = 1000000 := rfl
  refine ⟨_, rfl, p, _, 0, _, rfl, rfl, hp, atT (j := 0) rfl rfl, a1, rfl, ⟨_, s1⟩, fun l hl => ?_⟩
  refine lc_map (walk_tup (xs := iV D.statics)) hl D.statics (iV_len _) (szN (n := big) (by omega)) (fun w => .str (S (wl (itS w)))) (fun H1 e => smT e s1) ?_ ?_
  · rintro i n x H1 H2 C hn e ⟨rfl, hx⟩ hC
    rw [iV_get hn] at hx
    have hx := Option.some.inj hx
    subst hx
    refine ⟨rfl, _, rfl, szN (n := 1) (Nat.le_refl _), fun u hu => ?_⟩
    refine ⟨sStatic, u, [n], ?_, .inl (.of upd_same), fun w hw => ?_, by decide, by show 1 ≤ big; decide, fun H4 e4 => hC _ ((Same.new hu).trans e4)⟩
    · show [V.str ("static" : Str), .ref u] = _
      rw [lit]
      rfl
    · rw [List.mem_singleton.mp hw]
      exact hv.st n (List.mem_of_getElem? hn)
  intro H1 e hd
  have hd : H1 l = some (.lst (sV ((D.statics.map itS).map wl))) := by
    rw [hd]
    unfold sV
    rw [List.map_map, List.map_map]
    rfl
  refine ⟨_, rfl, p, _, 1, _, rfl, rfl, smT e hp, atT (j := 1) rfl rfl, a2, rfl, ⟨_, smT e s2⟩, ?_⟩
  refine for_it (walk_tup (xs := us2)) (fun i σ H' => Same H H' ∧ H' l = some (.lst (sV ((D.statics.map itS ++ (D.frames.take i).flatMap itF).map wl))) ∧ ∃ x2, σ = [some (.ref p), some (.ref l), x2, none, none])
    ⟨e, by simpa using hd, _, rfl⟩ (fun i σ H' _ z => smT z.1 s2) ?_ ?_
  · rintro i x σ H2x H2 hi ⟨e2, hl2, x2, rfl⟩ ⟨rfl, hx⟩
    obtain ⟨f, hf, a, s, t, rfl, sq, ws, wt⟩ := Paired.at p2 hx
    have hfm : f ∈ D.frames := List.mem_of_getElem? hf
    obtain ⟨f1, f2, f3, f4, f5⟩ := hv.fr f hfm
    have hilt : i < D.frames.length := by rw [← Paired.len p2]; exact hi
    have tk : (D.frames.take (i + 1)).flatMap itF = (D.frames.take i).flatMap itF ++ itF f := by
      rw [List.take_succ, hf, List.flatMap_append]
      simp
    generalize hL : D.statics.map itS ++ (D.frames.take i).flatMap itF = L at hl2
    have hLn : L.length ≤ 900000 + big := by
      have hff : ((D.frames.take i).flatMap itF).length ≤ 3 * D.frames.length := by
        have : ∀ fs : List Fm, (fs.flatMap itF).length = 3 * fs.length := fun fs => by
          induction fs with
          | nil => rfl
          | cons f r ih =>
            rw [List.flatMap_cons, List.length_append, ih, List.length_cons]
            show 3 + _ = _
            omega
        rw [this, List.length_take]
        omega
      rw [← hL, List.length_append, List.length_map]
      omega
    obtain ⟨as, rfl, wsa⟩ := ws
    obtain ⟨at', rfl, wta⟩ := wt
    have n16 : f.name.length ≤ 16 := isName_len f1
    have pl : (showI f.place).length ≤ 11 := showI_len (by omega)
    have c6 : (cs "frame ").length = 6 := by decide
    refine ⟨_, rfl, .inl ⟨rfl, _, .of hl2⟩, _, rfl, a, _, 0, _, rfl, rfl, smT e2 sq, atT (j := 0) rfl rfl, ?_⟩
    refine ⟨_, _, rfl, rfl, catL (lit "frame ") rfl (by rw [c6]; omega), ?_⟩
    rw [catE (lit "frame ") rfl]
    refine ⟨_, _, rfl, rfl, catL rfl (show (" " : Str) = S [32] from lit _) (by rw [List.length_append, c6]; show _ + 1 ≤ _; omega), ?_⟩
    rw [catE rfl (show (" " : Str) = S [32] from lit _)]
    refine ⟨_, rfl, a, _, 1, _, rfl, rfl, smT e2 sq, atT (j := 1) rfl rfl, _, rfl, strL (by omega), ?_⟩
    rw [showI_str]
    refine ⟨_, _, rfl, rfl, catL rfl rfl (by rw [List.length_append, List.length_append, c6]; show _ + 1 + _ ≤ _; omega), ?_⟩
    rw [catE rfl rfl]
    refine ⟨_, _, rfl, rfl, catL rfl (show ("\n" : Str) = S [10] from lit _) (by rw [List.length_append, List.length_append, List.length_append, c6]; show _ + 1 + _ + 1 ≤ _; omega), ?_⟩
    rw [catE rfl (show ("\n" : Str) = S [10] from lit _)]
    refine ⟨l, _, _, rfl, rfl, hl2, by rw [sV_len, List.length_map]; exact szL (n := 2000000) (by omega), ?_⟩
    rw [sV_snoc L _ (wl_frame f.name f.place)]
    -- slots
    have e3 := Same.mut (o := .lst (sV ((L ++ [(sFrame, Ct.fr f.name f.place)]).map wl))) e2 hl
    generalize hH3 : upd H2 l (.lst (sV ((L ++ [(sFrame, Ct.fr f.name f.place)]).map wl))) = H3 at e3
    have hl3 : H3 l = some (.lst (sV ((L ++ [(sFrame, Ct.fr f.name f.place)]).map wl))) := by rw [← hH3, upd_same]
    refine ⟨_, rfl, .inl ⟨rfl, _, .of hl3⟩, _, rfl, a, _, 2, _, rfl, rfl, smT e3 sq, atT (j := 2) rfl rfl, sSlots, as, f.slots, ?_, .inr (smT e3 wsa), f4, by decide, (by have := (z3 f hfm).1; omega), fun H4 e4 => ?_⟩
    · show [V.str ("slots" : Str), .ref as] = _
      rw [lit]
      rfl
    have hl4 := e4 _ _ hl3
    refine ⟨l, _, _, rfl, rfl, hl4, by rw [sV_len, List.length_map, List.length_append]; exact szL (n := 2000000) (by show L.length + 1 ≤ _; omega), ?_⟩
    rw [sV_snoc _ _ (wl_words sSlots f.slots)]
    have e5 := Same.mut (o := .lst (sV (((L ++ [(sFrame, Ct.fr f.name f.place)]) ++ [(sSlots, Ct.ws f.slots)]).map wl))) (e3.trans e4) hl
    generalize hH5 : upd H4 l (.lst (sV (((L ++ [(sFrame, Ct.fr f.name f.place)]) ++ [(sSlots, Ct.ws f.slots)]).map wl))) = H5 at e5
    have hl5 : H5 l = some (.lst (sV (((L ++ [(sFrame, Ct.fr f.name f.place)]) ++ [(sSlots, Ct.ws f.slots)]).map wl))) := by rw [← hH5, upd_same]
    refine ⟨_, rfl, .inl ⟨rfl, _, .of hl5⟩, _, rfl, a, _, 3, _, rfl, rfl, smT e5 sq, atT (j := 3) rfl rfl, sStack, at', f.stack, ?_, .inr (smT e5 wta), f5, by decide, (by have := (z3 f hfm).2; omega), fun H6 e6 => ?_⟩
    · show [V.str ("stack" : Str), .ref at'] = _
      rw [lit]
      rfl
    have hl6 := e6 _ _ hl5
    refine ⟨l, _, _, rfl, rfl, hl6, by rw [sV_len, List.length_map, List.length_append, List.length_append]; exact szL (n := 2000000) (by show L.length + 1 + 1 ≤ _; omega), ?_⟩
    rw [sV_snoc _ _ (wl_words sStack f.stack)]
    refine ⟨Same.mut (e5.trans e6) hl, ?_, _, rfl⟩
    rw [upd_same, tk, ← List.append_assoc, hL]
    rw [show itF f = [(sFrame, Ct.fr f.name f.place)] ++ [(sSlots, Ct.ws f.slots)] ++ [(sStack, Ct.ws f.stack)] from rfl]
    rw [← List.append_assoc, ← List.append_assoc]
  · rintro σ H2 ⟨e2, hl2, x2, rfl⟩
    rw [Paired.len p2, List.take_length] at hl2
    generalize hL : D.statics.map itS ++ D.frames.flatMap itF = L at hl2
    have hLn : L.length + D.objs.length + 2 ≤ big := by
      have h0 := rend_len D
      have h1 : (items D).length = (L ++ itemsW D.watched D.parted D.objs).length := by
        rw [← hL]
        unfold items itemsF
        rw [List.append_assoc]
      rw [h1, List.length_append] at h0
      have h2 : (itemsW D.watched D.parted D.objs).length = 2 + D.objs.length := by
        unfold itemsW
        simp only [List.length_cons, List.length_map]
        omega
      omega
    -- watched
    refine ⟨_, rfl, .inl ⟨rfl, _, .of hl2⟩, _, rfl, p, _, 2, _, rfl, rfl, smT e2 hp, atT (j := 2) rfl rfl, sWatched, a3, D.watched, ?_, .inr (smT e2 h3), hv.wa, by decide, (by omega), fun H4 e4 => ?_⟩
    · show [V.str ("watched" : Str), .ref a3] = _
      rw [lit]
      rfl
    have hl4 := e4 _ _ hl2
    refine ⟨l, _, _, rfl, rfl, hl4, by rw [sV_len, List.length_map]; exact szL (n := 2000000) (by omega), ?_⟩
    rw [sV_snoc _ _ (wl_words sWatched D.watched)]
    have e5 := Same.mut (o := .lst (sV ((L ++ [(sWatched, Ct.ws D.watched)]).map wl))) (e2.trans e4) hl
    generalize hH5 : upd H4 l (.lst (sV ((L ++ [(sWatched, Ct.ws D.watched)]).map wl))) = H5 at e5
    have hl5 : H5 l = some (.lst (sV ((L ++ [(sWatched, Ct.ws D.watched)]).map wl))) := by rw [← hH5, upd_same]
    -- parted
    refine ⟨_, rfl, .inl ⟨rfl, _, .of hl5⟩, _, rfl, p, _, 3, _, rfl, rfl, smT e5 hp, atT (j := 3) rfl rfl, sParted, a4, D.parted, ?_, .inr (smT e5 h4), hv.pa, by decide, (by omega), fun H6 e6 => ?_⟩
    · show [V.str ("parted" : Str), .ref a4] = _
      rw [lit]
      rfl
    have hl6 := e6 _ _ hl5
    refine ⟨l, _, _, rfl, rfl, hl6, by rw [sV_len, List.length_map, List.length_append]; exact szL (n := 2000000) (by show _ + 1 ≤ _; omega), ?_⟩
    rw [sV_snoc _ _ (wl_words sParted D.parted)]
    have e7 := Same.mut (o := .lst (sV (((L ++ [(sWatched, Ct.ws D.watched)]) ++ [(sParted, Ct.ws D.parted)]).map wl))) (e5.trans e6) hl
    generalize hH7 : upd H6 l (.lst (sV (((L ++ [(sWatched, Ct.ws D.watched)]) ++ [(sParted, Ct.ws D.parted)]).map wl))) = H7 at e7
    have hl7 : H7 l = some (.lst (sV (((L ++ [(sWatched, Ct.ws D.watched)]) ++ [(sParted, Ct.ws D.parted)]).map wl))) := by rw [← hH7, upd_same]
    have hM : D.statics.map itS ++ (D.frames.flatMap itF ++ itemsW D.watched D.parted D.objs) = ((L ++ [(sWatched, Ct.ws D.watched)]) ++ [(sParted, Ct.ws D.parted)]) ++ D.objs.map itO := by
      rw [← hL]
      unfold itemsW
      simp
    generalize hL2 : (L ++ [(sWatched, Ct.ws D.watched)]) ++ [(sParted, Ct.ws D.parted)] = M at hl7 hM
    have hMn : M.length + D.objs.length ≤ big := by
      rw [← hL2, List.length_append, List.length_append]
      show L.length + 1 + 1 + _ ≤ _
      omega
    refine ⟨_, rfl, p, _, 4, _, rfl, rfl, smT e7 hp, atT (j := 4) rfl rfl, a5, rfl, ⟨_, smT e7 s5⟩, ?_⟩
    refine for_it (walk_tup (xs := us5)) (fun i σ H' => Same H H' ∧ H' l = some (.lst (sV ((M ++ (D.objs.take i).map itO).map wl))) ∧ ∃ x2 x3, σ = [some (.ref p), some (.ref l), x2, x3, none])
      ⟨e7, by simpa using hl7, _, _, rfl⟩ (fun i σ H' _ z => smT z.1 s5) ?_ ?_
    · rintro i x σ H8x H8 hi ⟨e8, hl8, x2, x3, rfl⟩ ⟨rfl, hx⟩
      obtain ⟨o, ho, a, s, rfl, sq, ws⟩ := Paired.at p5 hx
      have hom : o ∈ D.objs := List.mem_of_getElem? ho
      obtain ⟨f1, f2⟩ := hv.ob o hom
      have n16 : o.name.length ≤ 16 := isName_len f1
      have c7 : (cs "object ").length = 7 := by decide
      obtain ⟨as, rfl, wsa⟩ := ws
      refine ⟨_, rfl, .inl ⟨rfl, _, .of hl8⟩, _, rfl, a, _, 0, _, rfl, rfl, smT e8 sq, atT (j := 0) rfl rfl, ?_⟩
      refine ⟨_, _, rfl, rfl, catL (lit "object ") rfl (by rw [c7]; omega), ?_⟩
      rw [catE (lit "object ") rfl]
      refine ⟨_, rfl, a, _, 1, _, rfl, rfl, smT e8 sq, atT (j := 1) rfl rfl, cs "object " ++ o.name, as, o.pay, rfl, .inr (smT e8 wsa), f2, by rw [List.length_append, c7]; omega, (by have := z4 o hom; omega), fun H10 e10 => ?_⟩
      have hl10 := e10 _ _ hl8
      refine ⟨l, _, _, rfl, rfl, hl10, ?_, ?_⟩
      · rw [sV_len, List.length_map, List.length_append, List.length_map, List.length_take]
        exact szL (n := 2000000) (by omega)
      rw [sV_snoc _ _ (wl_object o.name o.pay)]
      refine ⟨Same.mut (e8.trans e10) hl, ?_, _, _, rfl⟩
      have tk : (D.objs.take (i + 1)).map itO = (D.objs.take i).map itO ++ [itO o] := by
        rw [List.take_succ, ho, List.map_append]
        rfl
      rw [upd_same, tk, ← List.append_assoc]
      rfl
    · rintro σ H8 ⟨e8, hl8, x2, x3, rfl⟩
      rw [Paired.len p5, List.take_length, ← hM] at hl8
      refine ⟨⟨_, rfl⟩, _, rfl, ?_⟩
      have es : ("" : Str) = S [] := lit _
      rw [es]
      have hm : ((D.statics.map itS ++ (D.frames.flatMap itF ++ itemsW D.watched D.parted D.objs))) = items D := rfl
      rw [hm] at hl8
      refine join_it (.of hl8) ?_ ?_
      · rw [sum_wl]
        have e : (rend (items D)).length = (render D).length := rfl
        rw [e, List.length_nil, Nat.mul_zero]
        omega
      · rw [flat_wl]
        exact q _ e8
end
end Qb

/-! Kp5 -/
set_option Elab.async false
set_option linter.all false
set_option maxRecDepth 100000
set_option maxHeartbeats 2000000
/-! Readings: the error's and the picture's __init__, the lines that are read. -/
namespace Qb
open PySem PySem.Spec PyProof.Rows L2
/-- all but p stays -/
def Near (p : Addr) (H H' : Hp) : Prop := ∀ b o, H b = some o → b ≠ p → H' b = some o
theorem Near.same {p : Addr} {H H1 H2 : Hp} (a : Near p H H1) (b : Same H1 H2) : Near p H H2 := fun c o h n => b c o (a c o h n)
theorem Near.put {p : Addr} {H H1 : Hp} {o : HO} (a : Near p H H1) : Near p H (upd H1 p o) := fun c u h n => by
  rw [upd_ne n]
  exact a c u h n
theorem Near.tm {p C dx : Addr} {fs : List (Str × V)} {H H1 : Hp} (a : Near p H H1) (h : H p = some (.ins C dx fs)) : Tm H H1 := fun c o i z => a c o z fun e => by
  rw [e, h] at z
  have z := Option.some.inj z
  rw [← z] at i
  cases i
theorem Near.rd {p C dx a : Addr} {fs : List (Str × V)} {H H1 : Hp} {xs : List V} (n : Near p H H1) (h : H p = some (.ins C dx fs)) (z : Rd H a (.lst xs)) : Rd H1 a (.lst xs) := by
  rcases z with z | ⟨o, z⟩
  · exact .inl (n a _ z fun e => by
      rw [e, h] at z
      cases z)
  · exact .inr ⟨o, n a _ z fun e => by
      rw [e, h] at z
      cases z⟩
theorem Near.sq {K : Frag} {p C dx a : Addr} {fs : List (Str × V)} {H H1 : Hp} {xs : List V} (n : Near p H H1) (h : H p = some (.ins C dx fs)) (z : SqA K H a xs) : SqA K H1 a xs := by
  rcases z with z | z
  · rcases z with z | z
    · exact .inl (.inl (n.rd h z))
    · exact .inl (.inr z)
  · exact .inr (tmT (n.tm h) z)
section
variable {A : Ad} {K : Frag} {w : World} {mg : Str → Option Value} {vs : List V} {H : Hp} {Q : VK} {E : XK}
theorem len_BadImage_init (h : spBad A K vs H Q E) : vs.length = 3 := by obtain ⟨_, _, _, rfl, _⟩ := h; rfl
theorem pure_BadImage_init (T : Txt K mg w A) (h : spBad A K vs H Q E) : t_BadImage_init A K w { nx := fun _ H' => Q .non H', rt := Q } (start N_BadImage_init vs) H := by
  obtain ⟨a, x, y, rfl, ha, q⟩ := h
  refine ⟨_, rfl, _, rfl, a, A.B, rfl, T.oex, T.bL, .inl ⟨ha, fun dx hd hn => ?_⟩⟩
  refine ⟨_, rfl, _, rfl, a, A.B, rfl, T.oex, T.bW, .inr ⟨dx, _, upd_same, by rw [upd_ne hn, upd_same], by show 1 ≤ 900; decide, ?_⟩⟩
  refine q dx _ _ (by rw [upd_ne (fun e => hn e.symm), upd_same]) upd_same hd fun b o hb hba => ?_
  have hbd : b ≠ dx := ne_of_none hb hd
  rw [upd_ne hbd, upd_ne hba, upd_ne hbd]
  exact hb
/-- a field gets the tuple of a parameter -/
theorem fld_tup {D : Ends} {σ : L2.St} {p a C dx : Addr} {fs : List (Str × V)} {i : Nat} {f : Str} {ws : List Int} (hs : σ[0]? = some (some (.ref p))) (hi : σ[i]? = some (some (.ref a))) (ha : SqA K H a (iV ws)) (hp : H p = some (.ins C dx fs)) (hc : Cls K C) (hn : NoAttr K C f) (hl : fs.length < 1000)
    (q : ∀ v H1, Same H H1 → WT K H1 v ws → D.nx σ (upd H1 p (.ins C dx (putF f v fs)))) : sFld K (tVar 0) (tCB (rTupOf K) (tCons (tVar i) tNil)) f D σ H := by
  refine ⟨_, hi, a, iV ws, rfl, ?_⟩
  rcases ha with ha | ha
  · exact .inl ⟨ha, fun l hl' => ⟨_, hs, p, C, dx, fs, rfl, Same.new hl' _ _ hp, hc, hn, hl, q _ _ (Same.new hl') ⟨l, rfl, .of upd_same⟩⟩⟩
  · exact .inr ⟨ha, ⟨_, hs, p, C, dx, fs, rfl, hp, hc, hn, hl, q _ _ (Same.refl _) ⟨a, rfl, ha⟩⟩⟩
theorem Tm.ins {H H' : Hp} {p C dx : Addr} {fs : List (Str × V)} {o : HO} (e : Tm H H') (h : H' p = some (.ins C dx fs)) : Tm H (upd H' p o) := fun c u i z => by
  have z2 := e c u i z
  have n : c ≠ p := fun q => by
    rw [q, h] at z2
    have z2 := Option.some.inj z2
    rw [← z2] at i
    cases i
  rw [upd_ne n]
  exact z2
/-- a tuple of a tuple or list that is built -/
theorem tup_of {D : V → Hp → Prop} {a : Addr} {ws : List Int} (ha : SqA K H a (iV ws)) (q : ∀ v H1, Same H H1 → WT K H1 v ws → D v H1) : rTupOf K [.ref a] H D := by
  refine ⟨a, iV ws, rfl, ?_⟩
  rcases ha with ha | ha
  · exact .inl ⟨ha, fun l hl => q _ _ (Same.new hl) ⟨l, rfl, .of upd_same⟩⟩
  · exact .inr ⟨ha, q _ _ (Same.refl _) ⟨a, rfl, ha⟩⟩
theorem put_pic {v1 v2 v3 v4 v5 : V} : putF "objects" v5 (putF "parted" v4 (putF "watched" v3 (putF "frames" v2 (putF "statics" v1 [])))) = picF v1 v2 v3 v4 v5 := by rfl
theorem len_Picture_init (h : spPic A K vs H Q E) : vs.length = 6 := by obtain ⟨_, _, _, _, _, _, _, _, _, _, rfl, _⟩ := h; rfl
theorem pure_Picture_init (T : Txt K mg w A) (h : spPic A K vs H Q E) : t_Picture_init A K w { nx := fun _ H' => Q .non H', rt := Q } (start N_Picture_init vs) H := by
  obtain ⟨p, dx, a1, a2, a3, a4, a5, us2, us5, D, rfl, hp, s1, ⟨s2, p2⟩, s3, s4, ⟨s5, p5⟩, sm, q⟩ := h
  have eb : big = 1000000 := rfl
  refine fld_tup rfl rfl s1 hp T.cls T.nS (by show 0 < 1000; decide) fun v1 H1 e1 w1 => ?_
  have n1 : Near p H (upd H1 p (.ins A.C dx (putF "statics" v1 []))) := Near.put fun b o hb _ => e1 b o hb
  have w1 : WT K (upd H1 p (.ins A.C dx (putF "statics" v1 []))) v1 D.statics := w1.mono (Tm.ins (Tm.refl _) (e1 _ _ hp))
  generalize hG1 : upd H1 p (.ins A.C dx (putF "statics" v1 [])) = G1 at n1 w1
  have g1 : G1 p = some (.ins A.C dx (putF "statics" v1 [])) := by rw [← hG1, upd_same]
  -- frames
  have fin2 : ∀ v2 H2, Same G1 H2 → SeqT (FT K H2) K H2 v2 D.frames → (tSeq (sFld K (tVar 0) (tCB (rTupOf K) (tCons (tVar 3) tNil)) "watched")
  (tSeq (sFld K (tVar 0) (tCB (rTupOf K) (tCons (tVar 4) tNil)) "parted")
  (sFld K (tVar 0) (tCB (rTupOf K) (tCons (tLc (iOr (iList K (tVar 5)) (iTup K (tVar 5))) (gTup K 2 (gCons (gName 6) (gCons (gName 10) gNil))) tYes (tTup (tCons (tVar 6) (tCons (tCB (rTupOf K) (tCons (tVar 10) tNil)) tNil))) [6, 10]) tNil)) "objects"))) { nx := fun _ H' => Q .non H', rt := Q } (start N_Picture_init [.ref p, .ref a1, .ref a2, .ref a3, .ref a4, .ref a5]) (upd H2 p (.ins A.C dx (putF "frames" v2 (putF "statics" v1 [])))) := fun v2 H2 e2 w2 => by
    have t2 : Tm G1 (upd H2 p (.ins A.C dx (putF "frames" v2 (putF "statics" v1 [])))) := Tm.ins (Tm.of e2) (e2 _ _ g1)
    have n2 : Near p H (upd H2 p (.ins A.C dx (putF "frames" v2 (putF "statics" v1 [])))) := (n1.same e2).put
    have w1 := w1.mono t2
    have w2 : SeqT (FT K (upd H2 p (.ins A.C dx (putF "frames" v2 (putF "statics" v1 []))))) K (upd H2 p (.ins A.C dx (putF "frames" v2 (putF "statics" v1 [])))) v2 D.frames :=
      w2.mono (Tm.ins (Tm.refl _) (e2 _ _ g1)) fun _ _ z => FT.mono (Tm.ins (Tm.refl _) (e2 _ _ g1)) z
    generalize hG2 : upd H2 p (.ins A.C dx (putF "frames" v2 (putF "statics" v1 []))) = G2 at n2 w1 w2 t2
    have g2 : G2 p = some (.ins A.C dx (putF "frames" v2 (putF "statics" v1 []))) := by rw [← hG2, upd_same]
    refine fld_tup rfl rfl (n2.sq hp s3) g2 T.cls T.nW (by show 2 < 1000; decide) fun v3 H3 e3 w3 => ?_
    generalize hf3 : putF "watched" v3 (putF "frames" v2 (putF "statics" v1 [])) = f3
    have t3 : Tm G2 (upd H3 p (.ins A.C dx f3)) := Tm.ins (Tm.of e3) (e3 _ _ g2)
    have n3 : Near p H (upd H3 p (.ins A.C dx f3)) := (n2.same e3).put
    have w1 := w1.mono t3
    have w2 := w2.mono t3 fun _ _ z => FT.mono t3 z
    have w3 := w3.mono (Tm.ins (o := .ins A.C dx f3) (Tm.refl _) (e3 _ _ g2))
    generalize hG3 : upd H3 p (.ins A.C dx f3) = G3 at n3 w1 w2 w3 t3
    have g3 : G3 p = some (.ins A.C dx f3) := by rw [← hG3, upd_same]
    refine fld_tup rfl rfl (n3.sq hp s4) g3 T.cls T.nP (by rw [← hf3]; show 3 < 1000; decide) fun v4 H4 e4 w4 => ?_
    generalize hf4 : putF "parted" v4 f3 = f4
    have t4 : Tm G3 (upd H4 p (.ins A.C dx f4)) := Tm.ins (Tm.of e4) (e4 _ _ g3)
    have n4 : Near p H (upd H4 p (.ins A.C dx f4)) := (n3.same e4).put
    have w1 := w1.mono t4
    have w2 := w2.mono t4 fun _ _ z => FT.mono t4 z
    have w3 := w3.mono t4
    have w4 := w4.mono (Tm.ins (o := .ins A.C dx f4) (Tm.refl _) (e4 _ _ g3))
    generalize hG4 : upd H4 p (.ins A.C dx f4) = G4 at n4 w1 w2 w3 w4 t4
    have g4 : G4 p = some (.ins A.C dx f4) := by rw [← hG4, upd_same]
    have fin5 : ∀ v5 H5, Same G4 H5 → SeqT (OT K H5) K H5 v5 D.objs → Q .non (upd H5 p (.ins A.C dx (putF "objects" v5 f4))) := fun v5 H5 e5 w5 => by
      have t5 : Tm G4 (upd H5 p (.ins A.C dx (putF "objects" v5 f4))) := Tm.ins (Tm.of e5) (e5 _ _ g4)
      refine q _ ((n4.same e5).put) ⟨dx, v1, v2, v3, v4, v5, ?_, w1.mono t5, w2.mono t5 fun _ _ z => FT.mono t5 z, w3.mono t5, w4.mono t5, w5.mono (Tm.ins (Tm.refl _) (e5 _ _ g4)) fun _ _ z => OT.mono (Tm.ins (Tm.refl _) (e5 _ _ g4)) z⟩
      rw [upd_same, ← hf4, ← hf3, put_pic]
    have s5' := n4.sq hp s5
    have o5 : ∀ v o, OT K H v o → OT K G4 v o := fun _ _ z => OT.mono (n4.tm hp) z
    have lc5 : ∀ {J : It} {n : Nat} {G : Hp → Prop}, Walk J n G (YAt us5) → n = us5.length → (∀ H1, Same G4 H1 → G H1) → ∀ D', G4 D' = none → ∃ Wk : Nat → Nat → Hp → Prop, (∃ k, Wk 0 k (upd G4 D' (.lst []))) ∧ ∀ i k H, Wk i k H →
        (J.stop i H ∧ (fun x H1 => tNil (start N_Picture_init [.ref p, .ref a1, .ref a2, .ref a3, .ref a4, .ref a5]) H1 fun xs H2 => rTupOf K (x :: xs) H2 fun y H1 => tVar 0 (start N_Picture_init [.ref p, .ref a1, .ref a2, .ref a3, .ref a4, .ref a5]) H1 fun x H2 => ∃ a C dx fs, x = .ref a ∧ H2 a = some (.ins C dx fs) ∧ Cls K C ∧ NoAttr K C "objects" ∧ fs.length < 1000 ∧ Q .non (upd H2 a (.ins C dx (putF "objects" y fs)))) (.ref D') H) ∨ (J.go i H ∧ ∃ Ny : Hp → Prop, (∀ H', Ny H' → ∃ k', k' < k ∧ Wk (i + 1) k' H') ∧ ∀ x H', J.yld i H x H' → (gTup K 2 (gCons (gName 6) (gCons (gName 10) gNil))) x (wipe (start N_Picture_init [.ref p, .ref a1, .ref a2, .ref a3, .ref a4, .ref a5]) [6, 10]) H' fun σ2 H2 => wipe σ2 [6, 10] = wipe (start N_Picture_init [.ref p, .ref a1, .ref a2, .ref a3, .ref a4, .ref a5]) [6, 10] ∧ tYes σ2 H2 fun b H3 =>
          if b = true then (tTup (tCons (tVar 6) (tCons (tCB (rTupOf K) (tCons (tVar 10) tNil)) tNil))) σ2 H3 fun y H4 => ∃ us, H4 D' = some (.lst us) ∧ us.length < sizeLine ∧ Ny (upd H4 D' (.lst (us ++ [y]))) else Ny H3) := fun {J n G} wk hn hG D' hD' => by
      refine lc_gen wk hD' D.objs (hn.trans (Paired.len p5)) (szN sm.ob) (fun H v o => OT K H v o) (fun _ _ _ _ e z => OT.mono e z) hG ?_ ?_
      · rintro i o x H5 H6 C ho e ⟨rfl, hx⟩ hC
        obtain ⟨o', ho', z⟩ := Paired.at p5 hx
        rw [ho] at ho'
        have ho' := Option.some.inj ho'
        subst ho'
        obtain ⟨a, pv, rfl, sq, ap, rfl, wp⟩ := OT.mono (Tm.of e) (o5 _ _ z)
        refine ⟨a, _, rfl, sq, rfl, _, _, rfl, _, _, rfl, rfl, rfl, ?_⟩
        exact ⟨_, rfl, _, rfl, ap, _, rfl, .inr ⟨wp, szN (n := 2) (Nat.le_refl _), fun u hu => hC _ _ (Same.new hu) ⟨u, _, rfl, .of upd_same, ap, rfl, smT (Same.new hu) wp⟩⟩⟩
      · intro H5 us e hd hp5
        refine ⟨D', us, rfl, .inl ⟨.of hd, fun l hl => ⟨_, rfl, p, A.C, dx, _, rfl, (Same.add e hl) _ _ g4, T.cls, T.nO, by rw [← hf4, ← hf3]; show 4 < 1000; decide, fin5 _ _ (Same.add e hl) ⟨l, us, rfl, .of upd_same, Paired.mapP hp5 fun _ _ z => OT.mono (Tm.of (Same.new hl)) z⟩⟩⟩⟩
    rcases s5' with s5' | s5'
    · exact .inl ⟨_, rfl, a5, rfl, ⟨_, s5'⟩, lc5 walk_list rfl fun H1 e => smL e s5'⟩
    · exact .inr ⟨_, rfl, a5, rfl, ⟨_, s5'⟩, lc5 walk_tup rfl fun H1 e => smT e s5'⟩
  have s2' := n1.sq hp s2
  have o2 : ∀ v o, FT K H v o → FT K G1 v o := fun _ _ z => FT.mono (n1.tm hp) z
  have step : ∀ (C : VK) i f x H5, D.frames[i]? = some f → Same G1 H5 → us2[i]? = some x → (∀ y H4, Same H5 H4 → FT K H4 y f → C y H4) →
      (gTup K 4 (gCons (gName 6) (gCons (gName 7) (gCons (gName 8) (gCons (gName 9) gNil))))) x (wipe (start N_Picture_init [.ref p, .ref a1, .ref a2, .ref a3, .ref a4, .ref a5]) [6, 7, 8, 9]) H5 fun σ2 H2 => wipe σ2 [6, 7, 8, 9] = wipe (start N_Picture_init [.ref p, .ref a1, .ref a2, .ref a3, .ref a4, .ref a5]) [6, 7, 8, 9] ∧ (tTup (tCons (tVar 6) (tCons (tVar 7) (tCons (tCB (rTupOf K) (tCons (tVar 8) tNil)) (tCons (tCB (rTupOf K) (tCons (tVar 9) tNil)) tNil))))) σ2 H2 C := fun C i f x H5 hf e hx hC => by
    obtain ⟨f', hf', z⟩ := Paired.at p2 hx
    rw [hf] at hf'
    have hf' := Option.some.inj hf'
    subst hf'
    obtain ⟨a, s, t, rfl, sq, ⟨as, rfl, ws⟩, ⟨at', rfl, wt⟩⟩ := FT.mono (Tm.of e) (o2 _ _ z)
    refine ⟨a, _, rfl, sq, rfl, _, _, rfl, _, _, rfl, _, _, rfl, _, _, rfl, rfl, rfl, ?_⟩
    exact ⟨_, rfl, _, rfl, _, rfl, as, _, rfl, .inr ⟨ws, _, rfl, at', _, rfl, .inr ⟨wt, szN (n := 4) (Nat.le_refl _), fun u hu => hC _ _ (Same.new hu) ⟨u, _, _, rfl, .of upd_same, ⟨as, rfl, smT (Same.new hu) ws⟩, at', rfl, smT (Same.new hu) wt⟩⟩⟩⟩
  rcases s2' with s2' | s2'
  · refine .inl ⟨_, rfl, a2, rfl, ⟨_, s2'⟩, fun D' hD' => ?_⟩
    refine lc_gen walk_list hD' D.frames (Paired.len p2) (szN sm.fr) (fun H v o => FT K H v o) (fun _ _ _ _ e z => FT.mono e z) (fun H1 e => smL e s2') ?_ ?_
    · rintro i f x H5 H6 C hf e ⟨rfl, hx⟩ hC
      exact step C i f x _ hf e hx hC
    · intro H5 us e hd hp5
      exact ⟨D', us, rfl, .inl ⟨.of hd, fun l hl => ⟨_, rfl, p, A.C, dx, _, rfl, (Same.add e hl) _ _ g1, T.cls, T.nF, by show 1 < 1000; decide, fin2 _ _ (Same.add e hl) ⟨l, us, rfl, .of upd_same, Paired.mapP hp5 fun _ _ z => FT.mono (Tm.of (Same.new hl)) z⟩⟩⟩⟩
  · refine .inr ⟨_, rfl, a2, rfl, ⟨_, s2'⟩, fun D' hD' => ?_⟩
    refine lc_gen walk_tup hD' D.frames (Paired.len p2) (szN sm.fr) (fun H v o => FT K H v o) (fun _ _ _ _ e z => FT.mono e z) (fun H1 e => smT e s2') ?_ ?_
    · rintro i f x H5 H6 C hf e ⟨rfl, hx⟩ hC
      exact step C i f x _ hf e hx hC
    · intro H5 us e hd hp5
      exact ⟨D', us, rfl, .inl ⟨.of hd, fun l hl => ⟨_, rfl, p, A.C, dx, _, rfl, (Same.add e hl) _ _ g1, T.cls, T.nF, by show 1 < 1000; decide, fin2 _ _ (Same.add e hl) ⟨l, us, rfl, .of upd_same, Paired.mapP hp5 fun _ _ z => FT.mono (Tm.of (Same.new hl)) z⟩⟩⟩⟩
end
end Qb

/-! Kp6 -/
set_option Elab.async false
set_option linter.all false
set_option maxRecDepth 100000
set_option maxHeartbeats 2000000
/-! Readings: lines are read. -/
namespace Qb
open PySem PySem.Spec PyProof.Rows L2
theorem updN {H : Hp} {a b : Addr} {o : HO} (e : upd H a o b = none) : H b = none := by
  by_cases z : b = a
  · rw [z, upd_same] at e
    cases e
  · rw [upd_ne z] at e
    exact e
/-- what holds ahead of line i -/
def RLi (K : Frag) (H : Hp) (t : T) (p rd : Addr) (Ls : List T) (i : Nat) (σ : L2.St) (H' : Hp) : Prop := Same H H' ∧ H' p = some (.lst (sV Ls)) ∧ ∃ last us r x4 x5 x6, σ = [some (.str (S t)), some (.ref p), some (.ref rd), some (.str (S last)), x4, x5, x6] ∧ H' rd = some (.lst us) ∧ Paired (ItT K H') us r ∧ us.length = i ∧
  (last = [] ∨ last ∈ firsts) ∧ lastF [] r = last ∧ (readL last (Ls.dropLast.drop i) = none → readL [] Ls.dropLast = none) ∧ ∀ r', readL last (Ls.dropLast.drop i) = some r' → readL [] Ls.dropLast = some (r ++ r')
theorem joinL_part {s : T} : ∀ {ps : List T} {p : T}, p ∈ ps → p.length ≤ (TL.joinL s ps).length
  | [], _, h => by cases h
  | [q], p, h => by rw [List.mem_singleton.mp h]; exact Nat.le_refl _
  | q :: r :: ps, p, h => by
    rw [joinL_cons (by simp), List.length_append, List.length_append]
    rcases List.mem_cons.mp h with h | h
    · rw [h]; omega
    · have := joinL_part (s := s) h
      omega
theorem cut_num (c : Nat) (t : T) : (cut c t).length ≤ t.length + 1 := by
  have h := joinL_ge (c := c) (cut c t)
  rw [join_cut] at h
  exact h
theorem cut_part_len {c : Nat} {t p : T} (h : p ∈ cut c t) : p.length ≤ t.length := by
  have z := joinL_part (s := [c]) h
  rw [join_cut] at z
  exact z
theorem in_sV (f : T) (ts : List T) : inV (.str (S f)) (sV ts) = decide (f ∈ ts) := by
  induction ts with
  | nil => rfl
  | cons t r ih =>
    have e : inV (.str (S f)) (sV (t :: r)) = ((S t == S f) || inV (.str (S f)) (sV r)) := rfl
    rw [e, ih, eq_str, Bool.eq_iff_iff]
    simp only [Bool.or_eq_true, decide_eq_true_eq, List.mem_cons]
    constructor
    · rintro (h | h)
      · exact .inl h.symm
      · exact .inr h
    · rintro (h | h)
      · exact .inl h.symm
      · exact .inr h
theorem flat_sV (ts : List T) : (sV ts).all flatV = true := by
  unfold sV
  rw [List.all_map]
  exact List.all_eq_true.mpr fun t _ => rfl
theorem readL_cons (last l : T) (ls : List T) (f : T) (r : List T) (h : cut 32 l = f :: r) : readL last (l :: ls) = if f ∈ follow last then (match lineC (f :: r) with
    | none => none
    | some c => match readL f ls with
      | none => none
      | some q => some ((f, c) :: q)) else none := by
  show (match cut 32 l with
    | [] => none
    | f :: r => if f ∈ follow last then (match lineC (f :: r) with
      | none => none
      | some c => match readL f ls with
        | none => none
        | some q => some ((f, c) :: q)) else none) = _
  rw [h]
theorem lastF_snoc : ∀ (r : List Item) (l : T) (it : Item), lastF l (r ++ [it]) = it.1
  | [], _, _ => rfl
  | x :: r, _, it => by
    show lastF x.1 (r ++ [it]) = _
    exact lastF_snoc r x.1 it
section
variable {A : Ad} {K : Frag} {w : World} {mg : Str → Option Value} {vs : List V} {H : Hp} {Q : VK} {E : XK}
/-- an error is raised -/
theorem raise_it {ta : TA} {σ : L2.St} {H0 : Hp} {x y : V} (hs : Same H0 H) (he : ∀ d H', Same H0 H' → E (.ref A.B) d H') (h : ta σ H fun vs H1 => H1 = H ∧ vs = [x, y]) (mono : ∀ {P P' : List V → Hp → Prop}, (∀ v H, P v H → P' v H) → ta σ H P → ta σ H P') :
    tMkO A.B (spBad A K) [] ta σ H fun cls d H' => E cls d H' := by
  refine mono (fun vs H1 z => ?_) h
  obtain ⟨rfl, rfl⟩ := z
  refine ⟨by show 2 ≤ 1000; decide, fun a ha => ⟨a, x, y, rfl, upd_same, fun d fs H2 h1 h2 h3 h4 => ⟨rfl, d, fs, h1, h2, updN h3, he _ _ ?_⟩⟩⟩
  intro b o hb
  have hb1 := hs _ _ hb
  have nba : b ≠ a := ne_of_none hb1 ha
  have nbd : b ≠ d := ne_of_none hb1 (updN h3)
  rw [upd_ne nbd]
  show (if b = a then none else H2 b) = some o
  rw [if_neg nba]
  exact h4 b o (by rw [upd_ne nba]; exact hb1) nba
theorem len_read_lines (h : sp_read_lines A K vs H Q E) : vs.length = 1 := by obtain ⟨_, rfl, _⟩ := h; rfl
theorem getLast_at (xs : List V) (v : V) (h : xs.getLast? = some v) : atI xs (-1) = some v := by
  obtain ⟨ys, rfl⟩ := List.getLast?_eq_some_iff.mp h
  exact atI_last ys v
theorem pure_read_lines (T : Txt K mg w A) (h : sp_read_lines A K vs H Q E) : t_read_lines A K w E { nx := fun _ H' => Q .non H', rt := Q } (start N_read_lines vs) H := by
  obtain ⟨t, rfl, hl, bad, q⟩ := h
  have eb : big = 1000000 := rfl
  have e10 : ("\n" : Str) = S [10] := lit _
  have e32 : (" " : Str) = S [32] := lit _
  have e0 : ("" : Str) = S [] := lit _
  refine ⟨_, rfl, ⟨_, rfl⟩, _, _, rfl, rfl, by decide, by rw [S_len]; exact szN (n := 1000002) (by omega), fun p hp => ?_⟩
  rw [e10, split1 t (by decide), sV_map]
  have hpn := cut_num 10 t
  generalize hLs : cut 10 t = Ls at hpn
  have hne : Ls ≠ [] := by rw [← hLs]; exact cut_ne 10 t
  have hpart : ∀ l ∈ Ls, l.length ≤ big := fun l hm => by
    rw [← hLs] at hm
    have := cut_part_len hm
    omega
  have eparN : readL [] Ls.dropLast = none → parse t = none := fun h => by
    unfold parse
    rw [hLs, h]
  have eparS : ∀ r, readL [] Ls.dropLast = some r → parse t = if Ls.getLast? = some [] ∧ endOk (lastF [] r) then some r else none := fun r h => by
    unfold parse
    rw [hLs, h]
  refine ⟨szN (n := 1) (by decide), fun rd hrd => ?_⟩
  have e1 : Same H (upd (upd H p (.lst (sV Ls))) rd (.lst [])) := Same.add (Same.new hp) hrd
  have hprd : p ≠ rd := fun z => by
    rw [← z, upd_same] at hrd
    cases hrd
  have hrd0 : H rd = none := updN hrd
  have hlen : Ls.length = Ls.dropLast.length + 1 := by
    rw [List.length_dropLast]
    have : 0 < Ls.length := List.length_pos_iff.mpr hne
    omega
  refine ⟨_, rfl, p, _, rfl, .inl (.of (by rw [upd_ne hprd, upd_same])), _, _, rfl, rfl, ((Ls.dropLast.length : Nat) : Int), ?_, by omega, by omega, ?_⟩
  · rw [sV_len, hlen]
    show [V.int (((Ls.dropLast.length + 1 : Nat) : Int) - 1)] = _
    congr 2
    omega
  rw [Int.toNat_natCast]
  refine for_it walk_range (RLi K H t p rd Ls)
    ⟨e1, by rw [upd_ne hprd, upd_same], [], [], [], _, _, _, by rw [e0]; rfl, upd_same, .nil, rfl, .inl rfl, rfl, fun z => z, fun r' z => z⟩ (fun _ _ _ _ _ => trivial) ?_ ?_
  · rintro i x σ H2x H2 hi ⟨e2, hp2, last, us, r, x4, x5, x6, rfl, hrd2, hpr, hus, hlast, hlf, none1, some1⟩ ⟨rfl, rfl⟩
    have hi2 : Ls.dropLast[i]? = some Ls.dropLast[i] := List.getElem?_eq_getElem hi
    generalize hl0 : Ls.dropLast[i] = l at hi2
    have hi3 : Ls[i]? = some l := by
      rw [List.getElem?_dropLast] at hi2
      split at hi2
      · exact hi2
      · cases hi2
    have hlm : l ∈ Ls := List.mem_of_getElem? hi3
    have hll := hpart l hlm
    have hdrop : Ls.dropLast.drop i = l :: Ls.dropLast.drop (i + 1) := by
      rw [List.drop_eq_getElem_cons hi, hl0]
    rw [hdrop] at none1 some1
    -- texts
    refine ⟨_, rfl, _, rfl, p, _, _, _, rfl, rfl, .of hp2, atT (j := i) (by omega) (sV_get hi3), ⟨_, rfl⟩, _, _, rfl, rfl, by decide, by rw [S_len]; exact szN (n := 1000002) (by omega), fun tp htp => ?_⟩
    rw [e32, split1 l (by decide), sV_map]
    obtain ⟨f, r0, hfr⟩ := cut_cons 32 l
    have hnum := cut_num 32 l
    have hprt : ∀ z ∈ cut 32 l, z.length ≤ big + 10 := fun z hz => by
      have := cut_part_len hz
      omega
    rw [readL_cons last l _ f r0 hfr] at none1 some1
    rw [hfr] at hnum hprt
    rw [hfr]
    have e3 := Same.new (o := .lst (sV (f :: r0))) htp
    generalize hG3 : upd H2 tp (.lst (sV (f :: r0))) = G3 at e3
    have htp3 : G3 tp = some (.lst (sV (f :: r0))) := by rw [← hG3, upd_same]
    -- an error
    have err : ∀ (x6 : Option V) H4, Same G3 H4 → readL [] Ls.dropLast = none → tMkO A.B (spBad A K) [] (tCons (tOp rPlus (tVar 4) (tC (.int 1))) (tCons (tC (.str "line")) tNil))
        [some (.str (S t)), some (.ref p), some (.ref rd), some (.str (S last)), some (.int (0 + (i : Nat))), some (.ref tp), x6] H4 fun cls d H' => E cls d H' := fun x6 H4 e4 hn => by
      refine raise_it (x := .int (0 + (i : Nat) + 1)) (y := .str "line") ((e2.trans e3).trans e4) (bad (eparN hn)) ⟨_, rfl, _, _, rfl, rfl, rfl, rfl⟩ ?_
      rintro P P' hP ⟨v, hv, i', j', z1, z2, z3⟩
      exact ⟨v, hv, i', j', z1, z2, hP _ _ z3⟩
    -- after the test
    have after : ∀ (C0 B0 : L2.St → Hp → Prop) (u : V) H4, Same G3 H4 → f ∈ follow last → OvC K H4 u (lineC (f :: r0)) → (tSeq (tIfS (tTest (tOp rIsN' (tVar 6) (tC .non))) (fun _ σ H => tMkO A.B (spBad A K) [] (tCons (tOp rPlus (tVar 4) (tC (.int 1))) (tCons (tC (.str "line")) tNil)) σ H fun cls d H' => E cls d H') tNext)
  (tSeq (tAsg (tOp (rIxL K) (tVar 5) (tC (.int 0))) (gName 3))
  (tDrop (tBM K "list" rAppend (tVar 2) (tCons (tTup (tCons (tVar 3) (tCons (tVar 6) tNil))) tNil))))) { nx := RLi K H t p rd Ls (i + 1), ct := C0, bk := B0, rt := Q } [some (.str (S t)), some (.ref p), some (.ref rd), some (.str (S last)), some (.int (0 + (i : Nat))), some (.ref tp), some u] H4 := fun C0 B0 u H4 e4 hf hu => by
      rw [if_pos hf] at none1 some1
      cases hc : lineC (f :: r0) with
      | none =>
        rw [hc] at hu none1
        have hu : u = .non := hu
        subst hu
        exact ⟨_, rfl, rfl, true, rfl, err _ _ e4 (none1 rfl)⟩
      | some c =>
        rw [hc] at hu none1 some1
        have hun : u ≠ .non := fun z => by
          subst z
          cases c with
          | ws l => obtain ⟨a, z, _⟩ := hu; cases z
          | fr n p => obtain ⟨a, z, _⟩ := hu; cases z
          | ob n l => obtain ⟨a, _, z, _⟩ := hu; cases z
        refine ⟨_, rfl, rfl, _, rfl, ?_⟩
        refine itFalse hun ?_
        refine ⟨_, rfl, tp, _, 0, _, rfl, rfl, .of (e4 _ _ htp3), atT (j := 0) rfl rfl, ?_⟩
        have e5 := (e2.trans e3).trans e4
        have hrd4 : H4 rd = some (.lst us) := e4 _ _ (e3 _ _ hrd2)
        refine ⟨_, rfl, .inl ⟨rfl, _, .of hrd4⟩, _, rfl, _, rfl, szN (n := 2) (Nat.le_refl _), fun z hz => ?_⟩
        have e6 := Same.new (o := .tup [.str (S f), u]) hz
        refine ⟨rd, us, .ref z, rfl, rfl, e6 _ _ hrd4, ?_, ?_⟩
        · rw [hus]
          exact szL (n := 1000002) (by omega)
        have t7 : Tm H2 (upd (upd H4 z (.tup [.str (S f), u])) rd (.lst (us ++ [.ref z]))) := Tm.set (Tm.of ((e3.trans e4).trans e6)) (e6 _ _ hrd4)
        have t8 : Tm H4 (upd (upd H4 z (.tup [.str (S f), u])) rd (.lst (us ++ [.ref z]))) := Tm.set (Tm.of e6) (e6 _ _ hrd4)
        have t9 : Tm (upd H4 z (.tup [.str (S f), u])) (upd (upd H4 z (.tup [.str (S f), u])) rd (.lst (us ++ [.ref z]))) := Tm.set (Tm.refl _) (e6 _ _ hrd4)
        refine ⟨Same.mut (e5.trans e6) hrd0, ?_, f, us ++ [.ref z], r ++ [(f, c)], _, _, _, rfl, upd_same, ?_, ?_, .inr (follow_firsts hf), lastF_snoc _ _ _, fun hn => none1 ?_, fun r' hr' => ?_⟩
        · rw [upd_ne hprd]
          exact e6 _ _ (e4 _ _ (e3 _ _ hp2))
        · refine Paired.app (Paired.mapP hpr fun _ _ z => ItT.mono t7 z) (.cons ⟨z, u, rfl, tmT t9 (.of upd_same), CtT.mono t8 hu⟩ .nil)
        · rw [List.length_append, hus]
          rfl
        · rw [hn]
        · rw [List.append_assoc]
          refine some1 _ ?_
          rw [hr']
          rfl
    obtain ⟨fa, kf, sf⟩ := T.fol last hlast
    refine ⟨_, rfl, tp, _, 0, _, rfl, rfl, .of htp3, atT (j := 0) rfl rfl, _, rfl, A.F, S last, .ref fa, rfl, rfl, kf, fa, _, rfl, .inr (sf G3), rfl, ?_, _, rfl, ?_⟩
    · rw [sV_map]
      exact flat_sV _
    rw [if_neg Bool.false_ne_true, sV_map, in_sV]
    refine itD (fun hf => ?_) (fun hf => ?_)
    · refine ⟨_, rfl, .ref tp, f :: r0, rfl, ⟨tp, rfl, .of htp3, by omega, hprt⟩, by simp, fun u H4 e4 hu => ?_⟩
      exact after _ _ u H4 e4 hf hu
    · rw [if_neg hf] at none1
      exact ⟨_, rfl, rfl, true, rfl, err _ _ (Same.refl _) (none1 rfl)⟩
  · rintro σ H2 ⟨e2, hp2, last, us, r, x4, x5, x6, rfl, hrd2, hpr, hus, hlast, hlf, none1, some1⟩
    have hdr : Ls.dropLast.drop Ls.dropLast.length = [] := List.drop_length
    rw [hdr] at some1
    have hr := some1 [] rfl
    rw [List.append_nil] at hr
    have epar := eparS r hr
    rw [hlf] at epar
    obtain ⟨z, hz⟩ : ∃ z, Ls.getLast? = some z := ⟨_, List.getLast?_eq_some_getLast hne⟩
    have hzV : (sV Ls).getLast? = some (.str (S z)) := by
      unfold sV
      rw [List.getLast?_map, hz]
      rfl
    have err : ∀ H4, Same H2 H4 → parse t = none → tMkO A.B (spBad A K) [] (tCons (tCB (rLenQ K) (tCons (tVar 1) tNil)) (tCons (tC (.str "end")) tNil))
        [some (.str (S t)), some (.ref p), some (.ref rd), some (.str (S last)), x4, x5, x6] H4 fun cls d H' => E cls d H' := fun H4 e4 hn => by
      refine raise_it (x := .int (sV Ls).length) (y := .str "end") (e2.trans e4) (bad hn) ⟨_, rfl, p, _, rfl, .inl (.of (e4 _ _ hp2)), rfl, rfl⟩ ?_
      rintro P P' hP ⟨v, hv, p', ys, z1, z2, z3⟩
      exact ⟨v, hv, p', ys, z1, z2, hP _ _ z3⟩
    refine ⟨_, rfl, _, rfl, p, _, _, _, rfl, rfl, .of hp2, getLast_at _ _ hzV, rfl, _, rfl, ?_⟩
    rw [e0, dS]
    refine itN (fun h1 => ?_) (fun h1 => ?_)
    · refine iteT (err _ (Same.refl _) ?_)
      rw [epar, if_neg]
      rintro ⟨h2, _⟩
      rw [hz] at h2
      exact h1 (Option.some.inj h2)
    · subst h1
      refine ⟨_, rfl, szN (n := 2) (by decide), fun u hu => ?_⟩
      have eu := Same.new (o := .tup [.str ("parted" : Str), .str ("object" : Str)]) hu
      refine ⟨u, _, rfl, .inr (.of upd_same), rfl, rfl, _, rfl, ?_⟩
      have ein : inV (.str (S last)) [.str ("parted" : Str), .str ("object" : Str)] = decide (endOk last) := by
        have e1 : [V.str ("parted" : Str), V.str ("object" : Str)] = sV [sParted, sObject] := by
          rw [lit, lit]
          rfl
        rw [e1, in_sV]
        unfold endOk
        congr 1
        simp
      rw [if_pos rfl, ein]
      refine itN (fun h2 => err _ eu ?_) (fun h2 => ?_)
      · rw [epar, if_neg]
        exact fun z => h2 z.2
      · rw [if_pos ⟨hz, h2⟩] at epar
        exact ⟨_, rfl, q r epar rd us _ (e2.trans eu) (eu _ _ hrd2) (Paired.mapP hpr fun _ _ z => ItT.mono (Tm.of eu) z)⟩
end
end Qb

/-! Kp7 -/
set_option Elab.async false
set_option linter.all false
set_option maxRecDepth 100000
set_option maxHeartbeats 2000000
/-! Readings: a picture is read; pictures are compared. -/
namespace Qb
open PySem PySem.Spec PyProof.Rows L2
theorem if_no {D : Ends} {σ : L2.St} {H : Hp} {i : Nat} {f : T} {s : String} {t : TS} (hs : σ[i]? = some (some (.str (S f)))) (h : f ≠ cs s) (q : D.nx σ H) : tIfS (tTest (tOp rEq (tVar i) (tC (.str (Str.ofString s))))) t tNext D σ H := by
  refine ⟨_, hs, rfl, _, rfl, ?_⟩
  rw [lit, dS]
  exact itFalse h q
theorem if_yes {D : Ends} {σ : L2.St} {H : Hp} {i : Nat} {f : T} {s : String} {t : TS} (hs : σ[i]? = some (some (.str (S f)))) (h : f = cs s) (q : t D σ H) : tIfS (tTest (tOp rEq (tVar i) (tC (.str (Str.ofString s))))) t tNext D σ H := by
  refine ⟨_, hs, rfl, _, rfl, ?_⟩
  rw [lit, dS]
  exact itTrue h q
theorem seq_no {D : Ends} {σ : L2.St} {H : Hp} {i : Nat} {f : T} {s : String} {t u : TS} (hs : σ[i]? = some (some (.str (S f)))) (h : f ≠ cs s) (q : u D σ H) : tSeq (tIfS (tTest (tOp rEq (tVar i) (tC (.str (Str.ofString s))))) t tNext) u D σ H :=
  if_no (D := { D with nx := u D }) hs h q
theorem seq_yes {D : Ends} {σ : L2.St} {H : Hp} {i : Nat} {f : T} {s : String} {t u : TS} (hs : σ[i]? = some (some (.str (S f)))) (h : f = cs s) (q : t { D with nx := u D } σ H) : tSeq (tIfS (tTest (tOp rEq (tVar i) (tC (.str (Str.ofString s))))) t tNext) u D σ H :=
  if_yes (D := { D with nx := u D }) hs h q
/-- what holds ahead of item i -/
def RIi (K : Frag) (H : Hp) (t : T) (p : Addr) (us : List V) (r : List Item) (D : Pic) (i : Nat) (σ : L2.St) (H' : Hp) : Prop := Same H H' ∧ H' p = some (.lst us) ∧ Paired (ItT K H') us r ∧
  ∃ (P : Pic) (l1 l2 l3 : Addr) (us2 us3 : List V) (v4 v5 : V) (x7 x8 x9 : Option V), σ = [some (.str (S t)), some (.ref l1), some (.ref l2), some (.ref l3), some v4, some v5, some (.ref p), x7, x8, x9] ∧
  H' l1 = some (.lst (iV P.statics)) ∧ H' l2 = some (.lst us2) ∧ Paired (FT K H') us2 P.frames ∧ H' l3 = some (.lst us3) ∧ Paired (OT K H') us3 P.objs ∧ WT K H' v4 P.watched ∧ WT K H' v5 P.parted ∧
  (H l1 = none ∧ H l2 = none ∧ H l3 = none) ∧ (p ≠ l1 ∧ p ≠ l2 ∧ p ≠ l3 ∧ l1 ≠ l2 ∧ l1 ≠ l3 ∧ l2 ≠ l3) ∧ asm (r.drop i) P = D ∧ (∃ last, Chain last (r.drop i) ∧ endOk (lastF last (r.drop i))) ∧ (P.statics.length ≤ i ∧ P.frames.length ≤ i ∧ P.objs.length ≤ i)
section
variable {A : Ad} {K : Frag} {w : World} {mg : Str → Option Value} {vs : List V} {H : Hp} {Q : VK} {E : XK}
theorem len_read_image (h : sp_read_image A K vs H Q E) : vs.length = 1 := by obtain ⟨_, rfl, _⟩ := h; rfl
theorem pure_read_image (T : Txt K mg w A) (h : sp_read_image A K vs H Q E) : t_read_image A K w E { nx := fun _ H' => Q .non H', rt := Q } (start N_read_image vs) H := by
  obtain ⟨t, rfl, hl, bad, q⟩ := h
  have eb : big = 1000000 := rfl
  refine ⟨szN (n := 1) (by decide), fun l1 h1 => ⟨szN (n := 1) (by decide), fun l2 h2 => ⟨szN (n := 1) (by decide), fun l3 h3 => ⟨_, _, _, rfl, ?_⟩⟩⟩⟩
  have s1 := Same.new (o := .lst []) h1
  generalize hG1 : upd H l1 (.lst []) = G1 at s1 h2 h3
  have g1 : G1 l1 = some (.lst []) := by rw [← hG1, upd_same]
  have s2 := Same.new (o := .lst []) h2
  generalize hG2 : upd G1 l2 (.lst []) = G2 at s2 h3
  have g2 : G2 l2 = some (.lst []) := by rw [← hG2, upd_same]
  have s3 := Same.new (o := .lst []) h3
  generalize hG3 : upd G2 l3 (.lst []) = G3 at s3
  have g3 : G3 l3 = some (.lst []) := by rw [← hG3, upd_same]
  have n12 : l1 ≠ l2 := ne_of_none g1 h2
  have n13 : l1 ≠ l3 := ne_of_none (s2 _ _ g1) h3
  have n23 : l2 ≠ l3 := ne_of_none g2 h3
  have f2 : H l2 = none := s1.free h2
  have f3 : H l3 = none := (s1.trans s2).free h3
  refine ⟨szN (n := 1) (by decide), fun q1 hq1 => ⟨szN (n := 1) (by decide), fun q2 hq2 => ⟨szN (n := 2) (Nat.le_refl _), fun q3 hq3 => ⟨q3, _, rfl, .of upd_same, rfl, _, _, rfl, _, _, rfl, rfl, ?_⟩⟩⟩⟩
  have s4 := Same.new (o := .tup []) hq1
  generalize hG4 : upd G3 q1 (.tup []) = G4 at s4 hq2 hq3
  have g4 : G4 q1 = some (.tup []) := by rw [← hG4, upd_same]
  have s5 := Same.new (o := .tup []) hq2
  generalize hG5 : upd G4 q2 (.tup []) = G5 at s5 hq3
  have g5 : G5 q2 = some (.tup []) := by rw [← hG5, upd_same]
  have s6 := Same.new (o := .tup [.ref q1, .ref q2]) hq3
  generalize hG6 : upd G5 q3 (.tup [.ref q1, .ref q2]) = G6 at s6
  have s16 : Same H G6 := (((s1.trans s2).trans s3).trans s4).trans (s5.trans s6)
  refine ⟨_, rfl, t, rfl, hl, fun hn d H' e => bad hn d H' (s16.trans e), fun r hr p us H7 e7 hp7 pr7 => ?_⟩
  obtain ⟨D, hv, rfl, ht⟩ := parse_some hr
  have hsm := small_of (D := D) (n := big) (by rw [← ht]; exact hl)
  obtain ⟨z0, z1, z2, z3, z4⟩ := hsm
  have hrl := rend_len D
  have hul : us.length = (items D).length := Paired.len pr7
  have hu0 : us ≠ [] := fun z => by
    rw [z, hrl] at hul
    have hul : 0 = _ := hul
    omega
  have a1 : H7 l1 = some (.lst []) := e7 _ _ (s6 _ _ (s5 _ _ (s4 _ _ (s3 _ _ (s2 _ _ g1)))))
  have a2 : H7 l2 = some (.lst []) := e7 _ _ (s6 _ _ (s5 _ _ (s4 _ _ (s3 _ _ g2))))
  have a3 : H7 l3 = some (.lst []) := e7 _ _ (s6 _ _ (s5 _ _ (s4 _ _ g3)))
  have a4 : H7 q1 = some (.tup []) := e7 _ _ (s6 _ _ (s5 _ _ g4))
  have a5 : H7 q2 = some (.tup []) := e7 _ _ (s6 _ _ g5)
  have np : ∀ l, H7 l = some (.lst []) → p ≠ l := fun l hl z => by
    rw [← z, hp7] at hl
    exact hu0 (by injection hl with hl; injection hl)
  obtain ⟨ch0, end0⟩ := items_chain hv
  refine ⟨_, rfl, p, _, rfl, .inl (.of hp7), ((us.length : Nat) : Int), rfl, by omega, by omega, ?_⟩
  rw [Int.toNat_natCast]
  refine for_it walk_range (RIi K H t p us (items D) D) ⟨s16.trans e7, hp7, pr7, {}, l1, l2, l3, [], [], .ref q1, .ref q2, _, _, _, rfl, a1, a2, .nil, a3, .nil, ⟨q1, rfl, .of a4⟩, ⟨q2, rfl, .of a5⟩, ⟨h1, f2, f3⟩, ⟨np _ a1, np _ a2, np _ a3, n12, n13, n23⟩, asm_items D, ⟨[], ch0, end0⟩, ⟨Nat.le_refl _, Nat.le_refl _, Nat.le_refl _⟩⟩ (fun _ _ _ _ _ => trivial) ?_ ?_
  · rintro i x σ H2x H2 hi ⟨e2, hp2, pr2, P, l1, l2, l3, us2, us3, v4, v5, x7, x8, x9, rfl, b1, b2, p2, b3, p3, w4, w5, ⟨f1, f2, f3⟩, ⟨np1, np2, np3, n12, n13, n23⟩, has, ⟨last, hch, hend⟩, hn1, hn2, hn3⟩ ⟨rfl, rfl⟩
    have hi' : i < (items D).length := by rw [← hul]; exact hi
    have hit : (items D)[i]? = some (items D)[i] := List.getElem?_eq_getElem hi'
    have hdrop : (items D).drop i = (items D)[i] :: (items D).drop (i + 1) := List.drop_eq_getElem_cons hi'
    generalize hit0 : (items D)[i] = it at hit hdrop
    obtain ⟨f, c⟩ := it
    obtain ⟨v, hv1, a, u, rfl, sq, ct⟩ := Paired.atR pr2 hit
    rw [hdrop] at has hch hend
    obtain ⟨hf, hok, hch⟩ := hch
    have hend : endOk (lastF f ((items D).drop (i + 1))) := hend
    have has : asm ((items D).drop (i + 1)) (stepI f c ((items D).drop (i + 1)) P) = D := has
    have hff := follow_firsts hf
    have hsq : SqT K H2 a [.str (S f), u] := sq
    have hct : CtT K H2 u c := ct
    have hlen : us.length ≤ big := by omega
    refine ⟨_, rfl, _, rfl, p, _, _, _, rfl, rfl, .of hp2, atT (j := i) (by omega) hv1, a, _, rfl, hsq, rfl, _, _, rfl, _, _, rfl, rfl, ?_⟩
    have cases7 : f = sStatic ∨ f = sFrame ∨ (f = sSlots ∨ f = sStack) ∨ f = sWatched ∨ f = sParted ∨ f = sObject := by
      unfold firsts at hff
      simp only [List.mem_cons, List.not_mem_nil, or_false] at hff
      rcases hff with z | z | z | z | z | z | z
      · exact .inl z
      · exact .inr (.inl z)
      · exact .inr (.inr (.inl (.inl z)))
      · exact .inr (.inr (.inl (.inr z)))
      · exact .inr (.inr (.inr (.inl z)))
      · exact .inr (.inr (.inr (.inr (.inl z))))
      · exact .inr (.inr (.inr (.inr (.inr z))))
    rcases cases7 with rfl | rfl | h7 | rfl | rfl | rfl
    · -- static
      obtain ⟨l, rfl, hl1, _⟩ := ok_ws hok (show sStatic ≠ sFrame by decide) (show sStatic ≠ sObject by decide)
      have hl1 := hl1 rfl
      match l, hl1, hct, has with
      | [n], _, ⟨au, eu, su⟩, has =>
        subst eu
        refine seq_yes rfl rfl ⟨_, rfl, .inl ⟨rfl, _, .of b1⟩, _, rfl, au, _, 0, _, rfl, rfl, su, atT (j := 0) rfl rfl, l1, _, _, rfl, rfl, b1, by rw [iV_len]; exact szL (n := 1000002) (by omega), ?_⟩
        refine seq_no rfl (by decide) (seq_no rfl (by decide) (seq_no rfl (by decide) (if_no rfl (by decide) ?_)))
        have tm : Tm H2 (upd H2 l1 (.lst (iV P.statics ++ [V.int n]))) := Tm.set (Tm.refl _) b1
        refine ⟨Same.mut e2 f1, by rw [upd_ne np1]; exact hp2, Paired.mapP pr2 fun _ _ z => ItT.mono tm z, { P with statics := P.statics ++ [n] }, l1, l2, l3, us2, us3, v4, v5, _, _, _, rfl, ?_, by rw [upd_ne n12.symm]; exact b2, Paired.mapP p2 fun _ _ z => FT.mono tm z,
          by rw [upd_ne n13.symm]; exact b3, Paired.mapP p3 fun _ _ z => OT.mono tm z, w4.mono tm, w5.mono tm, ⟨f1, f2, f3⟩, ⟨np1, np2, np3, n12, n13, n23⟩, ?_, ⟨_, hch, hend⟩, ?_, Nat.le_succ_of_le hn2, Nat.le_succ_of_le hn3⟩
        · rw [upd_same]
          unfold iV
          rw [List.map_append]
          rfl
        · rw [stepI_ws, if_pos rfl] at has
          exact has
        · show (P.statics ++ [n]).length ≤ i + 1
          rw [List.length_append]
          show _ + 1 ≤ _
          omega
    · -- frame
      obtain ⟨n, k, rfl, _⟩ := ok_fr hok
      obtain ⟨au, rfl, su⟩ := hct
      obtain ⟨c2, r2, e2r⟩ : ∃ c2 r2, (items D).drop (i + 1) = (sSlots, c2) :: r2 := by
        cases hr2 : (items D).drop (i + 1) with
        | nil =>
          rw [hr2] at hend
          have hend : endOk sFrame := hend
          exact absurd hend (by decide)
        | cons y r2 =>
          rw [hr2] at hch
          obtain ⟨g, c2⟩ := y
          have h1 : g ∈ follow sFrame := hch.1
          rw [fol2, List.mem_singleton] at h1
          exact ⟨c2, r2, by rw [h1]⟩
      rw [e2r] at hch hend has
      obtain ⟨_, ok2, hch2⟩ := hch
      have hend2 : endOk (lastF sSlots r2) := hend
      obtain ⟨w2, rfl, _⟩ := ok_ws ok2 (show sSlots ≠ sFrame by decide) (show sSlots ≠ sObject by decide)
      obtain ⟨c3, r3, e3r⟩ : ∃ c3 r3, r2 = (sStack, c3) :: r3 := by
        cases r2 with
        | nil =>
          have hend2 : endOk sSlots := hend2
          exact absurd hend2 (by decide)
        | cons y r3 =>
          obtain ⟨g, c3⟩ := y
          have h1 : g ∈ follow sSlots := hch2.1
          rw [fol3, List.mem_singleton] at h1
          exact ⟨c3, r3, by rw [h1]⟩
      subst e3r
      obtain ⟨_, ok3, hch3⟩ := hch2
      obtain ⟨w3, rfl, _⟩ := ok_ws ok3 (show sStack ≠ sFrame by decide) (show sStack ≠ sObject by decide)
      have g2 : (items D)[i + 1]? = some (sSlots, .ws w2) := by
        have := congrArg (fun l => l[0]?) e2r
        simpa using this
      have g3 : (items D)[i + 2]? = some (sStack, .ws w3) := by
        have := congrArg (fun l => l[1]?) e2r
        simpa using this
      obtain ⟨y2, hy2, a2, u2, rfl, sq2, ct2⟩ := Paired.atR pr2 g2
      obtain ⟨y3, hy3, a3, u3, rfl, sq3, ct3⟩ := Paired.atR pr2 g3
      refine seq_no rfl (by decide) (seq_yes rfl rfl ⟨_, rfl, .inl ⟨rfl, _, .of b2⟩, _, rfl, au, _, 0, _, rfl, rfl, su, atT (j := 0) rfl rfl, _, rfl, au, _, 1, _, rfl, rfl, su, atT (j := 1) rfl rfl, ?_⟩)
      refine ⟨_, rfl, _, rfl, _, _, rfl, rfl, p, _, _, _, rfl, rfl, .of hp2, atT (j := i + 1) (by omega) hy2, a2, _, 1, _, rfl, rfl, sq2, atT (j := 1) rfl rfl, ?_⟩
      refine ⟨_, rfl, _, rfl, _, _, rfl, rfl, p, _, _, _, rfl, rfl, .of hp2, atT (j := i + 2) (by omega) hy3, a3, _, 1, _, rfl, rfl, sq3, atT (j := 1) rfl rfl, szN (n := 4) (Nat.le_refl _), fun z hz => ?_⟩
      have ez := Same.new (o := .tup [.str (S n), .int k, u2, u3]) hz
      refine ⟨l2, us2, _, rfl, rfl, ez _ _ b2, ?_, ?_⟩
      · rw [Paired.len p2]
        exact szL (n := 1000002) (by omega)
      refine seq_no rfl (by decide) (seq_no rfl (by decide) (if_no rfl (by decide) ?_))
      generalize hGz : upd H2 z (.tup [.str (S n), .int k, u2, u3]) = Gz at ez
      have gz : Gz z = some (.tup [.str (S n), .int k, u2, u3]) := by rw [← hGz, upd_same]
      have tz : Tm Gz (upd Gz l2 (.lst (us2 ++ [.ref z]))) := Tm.set (Tm.refl _) (ez _ _ b2)
      have tm : Tm H2 (upd Gz l2 (.lst (us2 ++ [.ref z]))) := (Tm.of ez).trans tz
      refine ⟨Same.mut (e2.trans ez) f2, by rw [upd_ne np2]; exact ez _ _ hp2, Paired.mapP pr2 fun _ _ z => ItT.mono tm z, { P with frames := P.frames ++ [⟨n, k, w2, w3⟩] }, l1, l2, l3, us2 ++ [.ref z], us3, v4, v5, _, _, _, rfl, by rw [upd_ne n12]; exact ez _ _ b1, upd_same, ?_,
        by rw [upd_ne n23.symm]; exact ez _ _ b3, Paired.mapP p3 fun _ _ z => OT.mono tm z, w4.mono tm, w5.mono tm, ⟨f1, f2, f3⟩, ⟨np1, np2, np3, n12, n13, n23⟩, ?_, ⟨sFrame, ?_, ?_⟩, Nat.le_succ_of_le hn1, ?_, Nat.le_succ_of_le hn3⟩
      · exact Paired.app (Paired.mapP p2 fun _ _ z => FT.mono tm z) (.cons ⟨z, u2, u3, rfl, tmT tz (.of gz), WT.mono tm ct2, WT.mono tm ct3⟩ .nil)
      · rw [e2r]
        exact has
      · rw [e2r]
        exact ⟨by rw [fol2]; simp, ok2, ⟨by show sStack ∈ follow sSlots; rw [fol3]; simp, ok3, hch3⟩⟩
      · rw [e2r]
        exact hend
      · show (P.frames ++ [_]).length ≤ i + 1
        rw [List.length_append]
        show _ + 1 ≤ _
        omega
    · -- slots, stack
      have nf : f ≠ sStatic ∧ f ≠ sFrame ∧ f ≠ sWatched ∧ f ≠ sParted ∧ f ≠ sObject := by
        rcases h7 with rfl | rfl
        · exact ⟨by decide, by decide, by decide, by decide, by decide⟩
        · exact ⟨by decide, by decide, by decide, by decide, by decide⟩
      obtain ⟨m1, m2, m3, m4, m5⟩ := nf
      obtain ⟨l, rfl, _⟩ := ok_ws hok m2 m5
      refine seq_no rfl m1 (seq_no rfl m2 (seq_no rfl m3 (seq_no rfl m4 (if_no rfl m5 ?_))))
      refine ⟨e2, hp2, pr2, P, l1, l2, l3, us2, us3, v4, v5, _, _, _, rfl, b1, b2, p2, b3, p3, w4, w5, ⟨f1, f2, f3⟩, ⟨np1, np2, np3, n12, n13, n23⟩, ?_, ⟨_, hch, hend⟩, Nat.le_succ_of_le hn1, Nat.le_succ_of_le hn2, Nat.le_succ_of_le hn3⟩
      rw [stepI_ws, if_neg m1, if_neg m3, if_neg m4] at has
      exact has
    · -- watched
      obtain ⟨l, rfl, _⟩ := ok_ws hok (show sWatched ≠ sFrame by decide) (show sWatched ≠ sObject by decide)
      refine seq_no rfl (by decide) (seq_no rfl (by decide) (seq_yes rfl rfl ⟨_, rfl, ?_⟩))
      refine seq_no rfl (by decide) (if_no rfl (by decide) ?_)
      refine ⟨e2, hp2, pr2, { P with watched := l }, l1, l2, l3, us2, us3, u, v5, _, _, _, rfl, b1, b2, p2, b3, p3, hct, w5, ⟨f1, f2, f3⟩, ⟨np1, np2, np3, n12, n13, n23⟩, ?_, ⟨_, hch, hend⟩, Nat.le_succ_of_le hn1, Nat.le_succ_of_le hn2, Nat.le_succ_of_le hn3⟩
      rw [stepI_ws, if_neg (by decide), if_pos rfl] at has
      exact has
    · -- parted
      obtain ⟨l, rfl, _⟩ := ok_ws hok (show sParted ≠ sFrame by decide) (show sParted ≠ sObject by decide)
      refine seq_no rfl (by decide) (seq_no rfl (by decide) (seq_no rfl (by decide) (seq_yes rfl rfl ⟨_, rfl, ?_⟩)))
      refine if_no rfl (by decide) ?_
      refine ⟨e2, hp2, pr2, { P with parted := l }, l1, l2, l3, us2, us3, v4, u, _, _, _, rfl, b1, b2, p2, b3, p3, w4, hct, ⟨f1, f2, f3⟩, ⟨np1, np2, np3, n12, n13, n23⟩, ?_, ⟨_, hch, hend⟩, Nat.le_succ_of_le hn1, Nat.le_succ_of_le hn2, Nat.le_succ_of_le hn3⟩
      rw [stepI_ws, if_neg (by decide), if_neg (by decide), if_pos rfl] at has
      exact has
    · -- object
      obtain ⟨n, l, rfl, _⟩ := ok_ob hok
      refine seq_no rfl (by decide) (seq_no rfl (by decide) (seq_no rfl (by decide) (seq_no rfl (by decide) (if_yes rfl rfl ?_))))
      refine ⟨_, rfl, .inl ⟨rfl, _, .of b3⟩, _, rfl, l3, us3, u, rfl, rfl, b3, ?_, ?_⟩
      · rw [Paired.len p3]
        exact szL (n := 1000002) (by omega)
      have tm : Tm H2 (upd H2 l3 (.lst (us3 ++ [u]))) := Tm.set (Tm.refl _) b3
      refine ⟨Same.mut e2 f3, by rw [upd_ne np3]; exact hp2, Paired.mapP pr2 fun _ _ z => ItT.mono tm z, { P with objs := P.objs ++ [⟨n, l⟩] }, l1, l2, l3, us2, us3 ++ [u], v4, v5, _, _, _, rfl, by rw [upd_ne n13]; exact b1, by rw [upd_ne n23]; exact b2, Paired.mapP p2 fun _ _ z => FT.mono tm z,
        upd_same, Paired.app (Paired.mapP p3 fun _ _ z => OT.mono tm z) (.cons (OT.mono tm hct) .nil), w4.mono tm, w5.mono tm, ⟨f1, f2, f3⟩, ⟨np1, np2, np3, n12, n13, n23⟩, has, ⟨_, hch, hend⟩, Nat.le_succ_of_le hn1, Nat.le_succ_of_le hn2, ?_⟩
      show (P.objs ++ [_]).length ≤ i + 1
      rw [List.length_append]
      show _ + 1 ≤ _
      omega
  · rintro σ H2 ⟨e2, hp2, pr2, P, l1, l2, l3, us2, us3, v4, v5, x7, x8, x9, rfl, b1, b2, p2, b3, p3, ⟨a4, rfl, w4⟩, ⟨a5, rfl, w5⟩, ⟨f1, f2, f3⟩, ⟨np1, np2, np3, n12, n13, n23⟩, has, _, hn1, hn2, hn3⟩
    have hdr : (items D).drop us.length = [] := by rw [hul]; exact List.drop_length
    rw [hdr] at has
    have has : P = D := has
    subst has
    refine ⟨_, rfl, _, rfl, _, rfl, _, rfl, _, rfl, fun x dx hx hdx hne => ?_⟩
    have ee : Same H2 (upd (upd H2 dx (.own x)) x (.ins A.C dx [])) := Same.add (Same.new hdx) (by rw [upd_ne hne.symm]; exact hx)
    refine ⟨x, dx, l1, l2, a4, a5, l3, us2, us3, P, rfl, upd_same, .inl (.of (ee _ _ b1)), ⟨.inl (.of (ee _ _ b2)), Paired.mapP p2 fun _ _ z => FT.mono (Tm.of ee) z⟩, .inr (smT ee w4), .inr (smT ee w5), ⟨.inl (.of (ee _ _ b3)), Paired.mapP p3 fun _ _ z => OT.mono (Tm.of ee) z⟩,
      ⟨by omega, by omega, by omega, by omega, by omega, z3, z4⟩, fun H3 near pic => ⟨rfl, q P hv hr x H3 (e2.trans (Same.made hx hdx near)) pic⟩⟩
/-! == -/
def wD (ws : List Int) : PyData := .tuple (ws.map .int)
def fD (f : Fm) : PyData := .tuple [.str (S f.name), .int f.place, wD f.slots, wD f.stack]
def oD (o : Ob) : PyData := .tuple [.str (S o.name), wD o.pay]
theorem dp_ints : ∀ ws : List Int, DpAll K H (iV ws) (ws.map .int)
  | [] => .nil
  | n :: r => .cons (.int n) (dp_ints r)
theorem WT.dp {v : V} {ws : List Int} (h : WT K H v ws) : Dp K H v (wD ws) := by
  obtain ⟨a, rfl, h⟩ := h
  exact .tup h (dp_ints ws)
theorem FT.dp {v : V} {f : Fm} (h : FT K H v f) : Dp K H v (fD f) := by
  obtain ⟨a, s, t, rfl, sq, ws, wt⟩ := h
  exact .tup sq (.cons (.str _) (.cons (.int _) (.cons ws.dp (.cons wt.dp .nil))))
theorem OT.dp {v : V} {o : Ob} (h : OT K H v o) : Dp K H v (oD o) := by
  obtain ⟨a, p, rfl, sq, ws⟩ := h
  exact .tup sq (.cons (.str _) (.cons ws.dp .nil))
theorem dp_all {α : Type} {F : V → α → Prop} {g : α → PyData} (hF : ∀ v x, F v x → Dp K H v (g x)) : ∀ {us : List V} {xs : List α}, Paired F us xs → DpAll K H us (xs.map g)
  | _, _, .nil => .nil
  | _, _, .cons r t => .cons (hF _ _ r) (dp_all hF t)
theorem SeqT.dp {α : Type} {F : V → α → Prop} {g : α → PyData} (hF : ∀ v x, F v x → Dp K H v (g x)) {v : V} {xs : List α} (h : SeqT F K H v xs) : Dp K H v (.tuple (xs.map g)) := by
  obtain ⟨a, us, rfl, sq, p⟩ := h
  exact .tup sq (dp_all hF p)
theorem lay_all {α : Type} {g : α → PyData} : ∀ {xs : List α}, (∀ x ∈ xs, (g x).canLay0 = true ∧ (g x).depth ≤ 10) → PyData.canLayAll0 (xs.map g) = true ∧ PyData.depthAll (xs.map g) ≤ 10
  | [], _ => ⟨rfl, Nat.zero_le _⟩
  | x :: r, h => by
    obtain ⟨h1, h2⟩ := h x (List.mem_cons_self ..)
    obtain ⟨i1, i2⟩ := lay_all (xs := r) fun y hy => h y (List.mem_cons_of_mem _ hy)
    rw [List.map_cons]
    refine ⟨?_, ?_⟩
    · show ((g x).canLay0 && PyData.canLayAll0 (r.map g)) = true
      rw [h1, i1]
      rfl
    · show max (g x).depth (PyData.depthAll (r.map g)) ≤ 10
      omega
theorem wD_lay (ws : List Int) : (wD ws).canLay0 = true ∧ (wD ws).depth ≤ 1 := by
  have h : PyData.canLayAll0 (ws.map PyData.int) = true ∧ PyData.depthAll (ws.map PyData.int) = 0 := by
    induction ws with
    | nil => exact ⟨rfl, rfl⟩
    | cons n r ih =>
      obtain ⟨i1, i2⟩ := ih
      refine ⟨i1, ?_⟩
      show max 0 (PyData.depthAll (r.map PyData.int)) = 0
      rw [i2]
      rfl
  refine ⟨h.1, ?_⟩
  show PyData.depthAll (ws.map PyData.int) + 1 ≤ 1
  rw [h.2]
  exact Nat.le_refl _
theorem name_ok {n : T} (h : isName n = true) : PyData.strOk (S n) = true := by
  show (n.toArray).all (· < 0x110000) = true
  rw [List.all_toArray]
  refine List.all_eq_true.mpr fun c hc => ?_
  have := isName_mem h hc
  exact decide_eq_true (by omega)
theorem fD_lay {f : Fm} (h : VF f) : (fD f).canLay0 = true ∧ (fD f).depth ≤ 10 := by
  obtain ⟨s1, s2⟩ := wD_lay f.slots
  obtain ⟨t1, t2⟩ := wD_lay f.stack
  refine ⟨?_, ?_⟩
  · show (PyData.strOk (S f.name) && (true && ((wD f.slots).canLay0 && ((wD f.stack).canLay0 && true)))) = true
    rw [name_ok h.1, s1, t1]
    rfl
  · show max 0 (max 0 (max (wD f.slots).depth (max (wD f.stack).depth 0))) + 1 ≤ 10
    omega
theorem oD_lay {o : Ob} (h : VO o) : (oD o).canLay0 = true ∧ (oD o).depth ≤ 10 := by
  obtain ⟨s1, s2⟩ := wD_lay o.pay
  refine ⟨?_, ?_⟩
  · show (PyData.strOk (S o.name) && ((wD o.pay).canLay0 && true)) = true
    rw [name_ok h.1, s1]
    rfl
  · show max 0 (max (wD o.pay).depth 0) + 1 ≤ 10
    omega
theorem shp {d : PyData} (h : d.canLay0 = true) (h2 : d.depth ≤ 64) : SeqAt.shaped d = true := by
  unfold SeqAt.shaped
  rw [h, decide_eq_true h2]
  rfl
/-- two values of the same data are equal -/
theorem eq_it {x y : V} {d : PyData} (h1 : Dp K H x d) (h2 : Dp K H y d) (hd : d.canLay0 = true ∧ d.depth ≤ 64) (q : Q (.bl true) H) : rEqD K x y H Q := by
  refine ⟨d, d, h1, h2, shp hd.1 hd.2, shp hd.1 hd.2, ?_⟩
  rw [PySem.SeqAt.eqv_refl d hd.1]
  exact q
theorem wD_ok (ws : List Int) : (wD ws).canLay0 = true ∧ (wD ws).depth ≤ 64 := ⟨(wD_lay ws).1, by have := (wD_lay ws).2; omega⟩
theorem tup_lay {α : Type} {g : α → PyData} {xs : List α} (h : ∀ x ∈ xs, (g x).canLay0 = true ∧ (g x).depth ≤ 10) : (PyData.tuple (xs.map g)).canLay0 = true ∧ (PyData.tuple (xs.map g)).depth ≤ 64 := by
  obtain ⟨h1, h2⟩ := lay_all h
  refine ⟨h1, ?_⟩
  show PyData.depthAll (xs.map g) + 1 ≤ 64
  omega
theorem len_Picture_eq (h : spPeq A K vs H Q E) : vs.length = 2 := by obtain ⟨_, _, rfl, _⟩ := h; rfl
theorem pure_Picture_eq (T : Txt K mg w A) (h : spPeq A K vs H Q E) : t_Picture_eq A K w { nx := fun _ H' => Q .non H', rt := Q } (start N_Picture_eq vs) H := by
  obtain ⟨a, b, rfl, ⟨D, ⟨dx, v1, v2, v3, v4, v5, ha, p1, p2, p3, p4, p5⟩, ⟨dy, u1, u2, u3, u4, u5, hb, r1, r2, r3, r4, r5⟩, hv⟩, q⟩ := h
  have hF := tup_lay (xs := D.frames) fun f hf => fD_lay (hv.fr f hf)
  have hO := tup_lay (xs := D.objs) fun o ho => oD_lay (hv.ob o ho)
  refine ⟨_, rfl, _, _, _, _, true, rfl, .own _, T.isp _ _ _ _ hb, T.kit, true, rfl, ?_⟩
  rw [if_pos rfl]
  refine ⟨_, rfl, a, A.C, dx, _, _, rfl, ha, T.cls, T.nS, look1, _, rfl, b, A.C, dy, _, _, rfl, hb, T.cls, T.nS, look1, eq_it p1.dp r1.dp (wD_ok _) ⟨true, rfl, ?_⟩⟩
  rw [if_pos rfl]
  refine ⟨_, rfl, a, A.C, dx, _, _, rfl, ha, T.cls, T.nF, look2, _, rfl, b, A.C, dy, _, _, rfl, hb, T.cls, T.nF, look2, eq_it (p2.dp fun _ _ z => FT.dp z) (r2.dp fun _ _ z => FT.dp z) hF ⟨true, rfl, ?_⟩⟩
  rw [if_pos rfl]
  refine ⟨_, rfl, a, A.C, dx, _, _, rfl, ha, T.cls, T.nW, look3, _, rfl, b, A.C, dy, _, _, rfl, hb, T.cls, T.nW, look3, eq_it p3.dp r3.dp (wD_ok _) ⟨true, rfl, ?_⟩⟩
  rw [if_pos rfl]
  refine ⟨_, rfl, a, A.C, dx, _, _, rfl, ha, T.cls, T.nP, look4, _, rfl, b, A.C, dy, _, _, rfl, hb, T.cls, T.nP, look4, eq_it p4.dp r4.dp (wD_ok _) ⟨true, rfl, ?_⟩⟩
  rw [if_pos rfl]
  exact ⟨_, rfl, a, A.C, dx, _, _, rfl, ha, T.cls, T.nO, look5, _, rfl, b, A.C, dy, _, _, rfl, hb, T.cls, T.nO, look5, eq_it (p5.dp fun _ _ z => OT.dp z) (r5.dp fun _ _ z => OT.dp z) hO (q H (fun _ _ z => z))⟩
end
end Qb

/-! Kp8 -/
set_option Elab.async false
set_option linter.all false
set_option maxRecDepth 100000
set_option maxHeartbeats 2000000
/-! Readings: the law's helpers. -/
namespace Qb
open PySem PySem.Spec PyProof.Rows L2
theorem at_iV {l : List Int} {i : Int} (h0 : 0 ≤ i) (h1 : i < l.length) : ∃ n, atI (iV l) i = some (.int n) ∧ n ∈ l := by
  obtain ⟨j, rfl⟩ := Int.eq_ofNat_of_zero_le h0
  have hj : j < l.length := by omega
  exact ⟨l[j], atI_nat (iV_get (List.getElem?_eq_getElem hj)), List.getElem_mem hj⟩
theorem at_sV {l : List T} {i : Int} (h0 : 0 ≤ i) (h1 : i < l.length) : ∃ t, atI (sV l) i = some (.str (S t)) ∧ t ∈ l := by
  obtain ⟨j, rfl⟩ := Int.eq_ofNat_of_zero_le h0
  have hj : j < l.length := by omega
  exact ⟨l[j], atI_nat (sV_get (List.getElem?_eq_getElem hj)), List.getElem_mem hj⟩
section
variable {A : Ad} {K : Frag} {w : World} {mg : Str → Option Value} {vs : List V} {H : Hp} {Q : VK} {E : XK}
theorem len__law_whole (h : sp__law_whole A K vs H Q E) : vs.length = 1 := by obtain ⟨_, rfl, _⟩ := h; rfl
theorem pure__law_whole (h : sp__law_whole A K vs H Q E) : t__law_whole A K w { nx := fun _ H' => Q .non H', rt := Q } (start N__law_whole vs) H := by
  obtain ⟨n, rfl, q⟩ := h
  refine ⟨_, rfl, _, _, _, _, true, rfl, .ty "int", .base (.int n), kit_ty (by decide +kernel), true, rfl, ?_⟩
  rw [if_pos rfl]
  exact ⟨_, rfl, _, _, _, _, false, rfl, .ty "bool", .base (.int n), kit_ty (by decide +kernel), false, rfl, q⟩
theorem len__law_cell (h : sp__law_cell A K vs H Q E) : vs.length = 2 := by obtain ⟨_, _, _, rfl, _⟩ := h; rfl
theorem pure__law_cell (h : sp__law_cell A K vs H Q E) : t__law_cell A K w { nx := fun _ H' => Q .non H', rt := Q } (start N__law_cell vs) H := by
  obtain ⟨p, ns, k, rfl, hq, hn, k0, k1, q⟩ := h
  refine ⟨_, rfl, _, rfl, p, _, rfl, .inl hq, _, _, rfl, rfl, _, rfl, ?_⟩
  rw [iV_len]
  refine itD (fun h1 => ?_) (fun h1 => ?_)
  · obtain ⟨n, e, _⟩ := at_iV k0 h1
    exact ⟨_, rfl, _, rfl, p, _, _, _, rfl, rfl, hq, e, q n⟩
  refine ⟨_, rfl, p, rfl, ⟨_, hq⟩, ?_⟩
  refine for_it (walk_list (xs := iV ns)) (fun i σ H' => H' = H ∧ ∃ s x, σ = [some (.ref p), some (.int k), some (.int s), x]) ⟨rfl, 17, _, rfl⟩ (fun i σ H' _ z => by rw [z.1]; exact hq) ?_ ?_
  · rintro i x σ H1 H2 hi ⟨rfl, s, x', rfl⟩ ⟨rfl, hx⟩
    have hi' : i < ns.length := by rw [iV_len] at hi; exact hi
    rw [iV_get (List.getElem?_eq_getElem hi')] at hx
    have hx := Option.some.inj hx
    subst hx
    exact ⟨_, rfl, _, _, rfl, rfl, .inr ⟨by decide, by decide⟩, _, rfl, _, rfl, _, _, rfl, rfl, (by show (0 : Int) < 1000003; decide), _, _, rfl, rfl, _, rfl, _, _, rfl, rfl, (by show (0 : Int) < 1000003; decide), rfl, _, _, rfl⟩
  · rintro σ H1 ⟨rfl, s, x', rfl⟩
    exact ⟨_, rfl, _, _, rfl, rfl, _, rfl, _, _, rfl, rfl, _, _, rfl, rfl, .inr ⟨by omega, by omega⟩, _, _, rfl, rfl, .inr ⟨by decide, by decide⟩, _, rfl, _, _, rfl, rfl, (by show (0 : Int) < 2147483647; decide), q _⟩
theorem digs_snoc {ns rs : List Int} {i : Nat} {n r : Int} (h : Paired (fun r n => 0 ≤ r ∧ r < n) rs (ns.take i)) (hn : ns[i]? = some n) (hr : 0 ≤ r ∧ r < n) : Paired (fun r n => 0 ≤ r ∧ r < n) (rs ++ [r]) (ns.take (i + 1)) := by
  rw [List.take_succ, hn]
  exact Paired.app h (.cons hr .nil)
theorem iV_snoc (rs : List Int) (r : Int) : iV rs ++ [V.int r] = iV (rs ++ [r]) := by
  unfold iV
  rw [List.map_append]
  rfl
theorem len__law_digits (h : sp__law_digits A K vs H Q E) : vs.length = 2 := by obtain ⟨_, _, _, rfl, _⟩ := h; rfl
theorem pure__law_digits (h : sp__law_digits A K vs H Q E) : t__law_digits A K w { nx := fun _ H' => Q .non H', rt := Q } (start N__law_digits vs) H := by
  obtain ⟨c, p, ns, rfl, hq, hl, hb, q⟩ := h
  refine ⟨szN (n := 1) (by decide), fun l hl0 => ?_⟩
  have e1 := Same.new (o := .lst []) hl0
  generalize hG : upd H l (.lst []) = G at e1
  have g1 : G l = some (.lst (iV [])) := by rw [← hG, upd_same]; rfl
  have mg' : ∀ n ∈ ns, n.natAbs.log2 < 9000 := fun n hn => by
    obtain ⟨b1, b2⟩ := hb n hn
    have : n.natAbs.log2 < 40 := (Nat.log2_lt (by omega)).mpr (by omega)
    omega
  refine ⟨_, rfl, _, rfl, ?_⟩
  refine ⟨_, rfl, _, _, rfl, rfl, ⟨by decide, by decide, by decide⟩, _, _, rfl, rfl, _, rfl, itD (fun h1 => ?_) (fun h1 => ?_)⟩
  · refine ⟨_, rfl, _, _, rfl, rfl, ⟨by decide, by decide, by decide⟩, _, _, rfl, rfl, ?_⟩
    refine ⟨_, rfl, p, rfl, ⟨_, smL e1 hq⟩, ?_⟩
    refine for_it (walk_list (xs := iV ns)) (fun i σ H' => Same H H' ∧ ∃ rest rs x4 x5 x6 x7, σ = [some (.int c), some (.ref p), some (.ref l), some (.int rest), x4, x5, x6, x7] ∧ H' l = some (.lst (iV rs)) ∧ Paired (fun r n => 0 ≤ r ∧ r < n) rs (ns.take i))
      ⟨e1, _, [], _, _, _, _, rfl, g1, .nil⟩ (fun i σ H' _ z => smL z.1 hq) ?_ ?_
    · rintro i x σ H2x H2 hi ⟨e2, rest, rs, x4, x5, x6, x7, rfl, g2, pr⟩ ⟨rfl, hx⟩
      have hi' : i < ns.length := by rw [iV_len] at hi; exact hi
      have hn := List.getElem?_eq_getElem hi'
      rw [iV_get hn] at hx
      have hx := Option.some.inj hx
      subst hx
      obtain ⟨b1, b2⟩ := hb _ (List.mem_of_getElem? hn)
      have hln : rs.length = i := by
        rw [Paired.len pr, List.length_take]
        omega
      refine ⟨_, rfl, .inl ⟨rfl, _, .of g2⟩, _, rfl, _, rfl, _, rfl, _, _, rfl, rfl, b1, l, _, _, rfl, rfl, g2, by rw [iV_len]; exact szL (n := 1002) (by omega), ?_⟩
      refine ⟨_, rfl, _, rfl, _, rfl, _, _, rfl, rfl, ⟨b1, mg' _ (List.mem_of_getElem? hn)⟩, ?_⟩
      rw [iV_snoc]
      exact ⟨Same.mut e2 hl0, _, _, _, _, _, _, rfl, upd_same, digs_snoc pr hn ⟨Int.emod_nonneg _ (by omega), Int.emod_lt_of_pos _ b1⟩⟩
    · rintro σ H2 ⟨e2, rest, rs, x4, x5, x6, x7, rfl, g2, pr⟩
      rw [iV_len, List.take_length] at pr
      exact ⟨_, rfl, q l rs H2 e2 g2 pr⟩
  · refine ⟨_, rfl, _, rfl, _, _, rfl, rfl, (by show (0 : Int) < 2147483629; decide), ?_⟩
    refine ⟨_, rfl, p, _, rfl, .inl (smL e1 hq), ((ns.length : Nat) : Int), by rw [iV_len], by omega, by omega, ?_⟩
    rw [Int.toNat_natCast]
    refine for_it walk_range (fun i σ H' => Same H H' ∧ ∃ x3 s rs x5 x6 x7, σ = [some (.int c), some (.ref p), some (.ref l), x3, some (.int s), x5, x6, x7] ∧ H' l = some (.lst (iV rs)) ∧ Paired (fun r n => 0 ≤ r ∧ r < n) rs (ns.take i))
      ⟨e1, _, _, [], _, _, _, rfl, g1, .nil⟩ (fun _ _ _ _ _ => trivial) ?_ ?_
    · rintro i x σ H2x H2 hi ⟨e2, x3, s, rs, x5, x6, x7, rfl, g2, pr⟩ ⟨rfl, rfl⟩
      have hn := List.getElem?_eq_getElem hi
      obtain ⟨b1, b2⟩ := hb _ (List.mem_of_getElem? hn)
      have hln : rs.length = i := by
        rw [Paired.len pr, List.length_take]
        omega
      refine ⟨_, rfl, _, _, rfl, rfl, .inr ⟨by decide, by decide⟩, _, rfl, _, _, rfl, rfl, .inl ⟨by decide, by decide⟩, _, _, rfl, rfl, _, _, rfl, rfl, _, rfl, _, _, rfl, rfl, (by show (0 : Int) < 2147483647; decide), ?_⟩
      have z1 := Int.emod_nonneg (s * 48271 + 974711 * (0 + (i : Nat)) + 12345) (b := 2147483647) (by decide)
      have z2 := Int.emod_lt_of_pos (s * 48271 + 974711 * (0 + (i : Nat)) + 12345) (b := 2147483647) (by decide)
      generalize hs' : (s * 48271 + 974711 * (0 + ((i : Nat) : Int)) + 12345) % 2147483647 = s' at z1 z2
      refine ⟨_, rfl, _, rfl, _, _, rfl, rfl, ⟨by decide, by decide⟩, _, _, rfl, rfl, _, _, rfl, rfl, .inl ⟨by rw [hs']; omega, by rw [hs']; omega⟩, _, rfl, _, _, rfl, rfl, (by show (0 : Int) < 2147483629; decide), ?_⟩
      refine ⟨_, rfl, .inl ⟨rfl, _, .of g2⟩, _, rfl, _, _, rfl, rfl, ⟨by decide, by decide⟩, _, rfl, _, rfl, p, _, _, _, rfl, rfl, smL e2 hq, atT (j := i) (by omega) (iV_get hn), _, _, rfl, rfl, b1, l, _, _, rfl, rfl, g2, by rw [iV_len]; exact szL (n := 1002) (by omega), ?_⟩
      rw [iV_snoc]
      exact ⟨Same.mut e2 hl0, _, _, _, _, _, _, rfl, upd_same, digs_snoc pr hn ⟨Int.emod_nonneg _ (by omega), Int.emod_lt_of_pos _ b1⟩⟩
    · rintro σ H2 ⟨e2, x3, s, rs, x5, x6, x7, rfl, g2, pr⟩
      rw [List.take_length] at pr
      exact ⟨_, rfl, q l rs H2 e2 g2 pr⟩
theorem len__law_word (h : sp__law_word A K vs H Q E) : vs.length = 2 := by obtain ⟨_, _, rfl, _⟩ := h; rfl
theorem pure__law_word (h : sp__law_word A K vs H Q E) : t__law_word A K w { nx := fun _ H' => Q .non H', rt := Q } (start N__law_word vs) H := by
  obtain ⟨a, b, rfl, b0, b1, q⟩ := h
  refine ⟨_, rfl, rfl, _, rfl, ?_⟩
  rw [dI]
  refine itD (fun h0 => q 0 H (.inl rfl) (Same.refl H)) (fun h0 => ?_)
  refine ⟨_, rfl, rfl, _, rfl, ?_⟩
  rw [dI]
  refine itD (fun h1 => ?_) (fun h1 => ?_)
  · refine ⟨szN (n := 8) (Nat.le_refl _), fun p hp => ?_⟩
    obtain ⟨n, en, hn⟩ := at_iV (l := [0, 9, 10, 99, 100, 99999, 1, 54321]) (i := b % 8) (by omega) (by show b % 8 < 8; omega)
    refine ⟨_, rfl, _, rfl, _, _, rfl, rfl, (by show (0 : Int) < 8; decide), p, _, _, _, rfl, rfl, .of upd_same, en, _, _, rfl, rfl, .inl ⟨by decide, by decide⟩, _, _, rfl, rfl, q _ _ ?_ (Same.new hp)⟩
    have : 0 ≤ n ∧ n ≤ 99999 := by
      simp only [List.mem_cons, List.not_mem_nil, or_false] at hn
      omega
    exact .inr (.inr (by omega))
  refine ⟨_, rfl, rfl, _, rfl, ?_⟩
  rw [dI]
  refine itD (fun h2 => ?_) (fun h2 => ?_)
  · refine ⟨_, rfl, _, rfl, _, _, rfl, rfl, (by show (0 : Int) < 100000; decide), _, _, rfl, rfl, .inl ⟨by decide, by decide⟩, _, _, rfl, rfl, q _ _ (.inr (.inr (by omega))) (Same.refl H)⟩
  refine ⟨_, rfl, rfl, _, rfl, ?_⟩
  rw [dI]
  refine itD (fun h3 => ?_) (fun h3 => ?_)
  · refine ⟨_, rfl, _, rfl, _, rfl, szN (n := 8) (Nat.le_refl _), fun p hp => ?_⟩
    obtain ⟨n, en, hn⟩ := at_iV (l := [0, 1, -1, 2147483647, -2147483648, 10, -10, 99999]) (i := b % 8) (by omega) (by show b % 8 < 8; omega)
    refine ⟨_, rfl, _, rfl, _, _, rfl, rfl, (by show (0 : Int) < 8; decide), p, _, _, _, rfl, rfl, .of upd_same, en, _, _, rfl, rfl, .inl ⟨by decide, by decide⟩, _, _, rfl, rfl, q _ _ ?_ (Same.new hp)⟩
    have : -2147483648 ≤ n ∧ n ≤ 2147483647 := by
      simp only [List.mem_cons, List.not_mem_nil, or_false] at hn
      omega
    exact .inr (.inl (by omega))
  refine ⟨_, rfl, rfl, _, rfl, ?_⟩
  rw [dI]
  refine itD (fun h4 => ?_) (fun h4 => ?_)
  · refine ⟨_, rfl, _, rfl, _, _, rfl, rfl, (by show (0 : Int) < 41; decide), _, _, rfl, rfl, _, _, rfl, rfl, .inl ⟨by decide, by decide⟩, _, _, rfl, rfl, q _ _ (.inr (.inl (by omega))) (Same.refl H)⟩
  · refine ⟨_, rfl, _, _, rfl, rfl, .inr ⟨by decide, by decide⟩, _, rfl, _, _, rfl, rfl, (by show (0 : Int) < 4294967296; decide), _, _, rfl, rfl, _, _, rfl, rfl, .inl ⟨by decide, by decide⟩, _, _, rfl, rfl, q _ _ (.inr (.inl (by omega))) (Same.refl H)⟩
end
end Qb

/-! Kp9 -/
set_option Elab.async false
set_option linter.all false
set_option maxRecDepth 100000
set_option maxHeartbeats 2000000
/-! Readings: the law's words, names, checks. -/
namespace Qb
open PySem PySem.Spec PyProof.Rows L2
def letL : T := cs "abcdefghijklmnopqrstuvwxyz0123456789"
theorem letL_len : letL.length = 36 := by decide
theorem let_at {r : Int} (h0 : 0 ≤ r) (h1 : r < 36) : ∃ c, atI (S letL).cps.toList r = some c ∧ nameC c = true ∧ (r < 26 → lowC c = true) ∧ c = letL.getD r.toNat 0 := by
  obtain ⟨j, rfl⟩ := Int.eq_ofNat_of_zero_le h0
  have hj : j < letL.length := by rw [letL_len]; omega
  have ha : ∀ i : Fin 36, nameC (letL.getD i.val 0) = true ∧ (i.val < 26 → lowC (letL.getD i.val 0) = true) := by decide +kernel
  obtain ⟨a1, a2⟩ := ha ⟨j, by rw [letL_len] at hj; exact hj⟩
  have e : letL[j]? = some (letL.getD j 0) := by
    rw [List.getD_eq_getElem?_getD, List.getElem?_eq_getElem hj]
    rfl
  have h2 : (S letL).cps.toList[j]? = some (letL.getD j 0) := e
  exact ⟨_, atI_nat h2, a1, fun h => a2 (show j < 26 by omega), rfl⟩
theorem rep_at : ∀ (m k : Nat), k < m → ((List.replicate m [(9 : Int), 4294967296]).flatten)[2 * k]? = some 9 ∧ ((List.replicate m [(9 : Int), 4294967296]).flatten)[2 * k + 1]? = some 4294967296
  | 0, k, h => absurd h (Nat.not_lt_zero k)
  | m + 1, 0, _ => by
    rw [List.replicate_succ, List.flatten_cons]
    exact ⟨rfl, rfl⟩
  | m + 1, k + 1, h => by
    obtain ⟨a, b⟩ := rep_at m k (by omega)
    rw [List.replicate_succ, List.flatten_cons]
    exact ⟨a, b⟩
theorem rep_len (m : Nat) : ((List.replicate m [(9 : Int), 4294967296]).flatten).length = 2 * m := by
  rw [List.length_flatten]
  simp
  omega
theorem rep_mem (m : Nat) : ∀ n ∈ (List.replicate m [(9 : Int), 4294967296]).flatten, 0 < n ∧ n < 2 ^ 40 := fun n hn => by
  obtain ⟨l, hl, hm⟩ := List.mem_flatten.mp hn
  have e := List.eq_of_mem_replicate hl
  rw [e] at hm
  simp only [List.mem_cons, List.not_mem_nil, or_false] at hm
  rcases hm with z | z
  · rw [z]; decide
  · rw [z]; decide
theorem iV_flat {m : Nat} {l : List Int} : (List.replicate m (iV l)).flatten = iV (List.replicate m l).flatten := by
  unfold iV
  rw [List.map_flatten, List.map_replicate]
section
variable {A : Ad} {K : Frag} {w : World} {mg : Str → Option Value} {vs : List V} {H : Hp} {Q : VK} {E : XK}
theorem paired_ints {α : Type} {P : Int → Prop} : ∀ {us : List V} {as : List α}, Paired (fun v _ => ∃ n, v = V.int n ∧ P n) us as → ∃ ws : List Int, us = iV ws ∧ ∀ n ∈ ws, P n
  | _, _, .nil => ⟨[], rfl, fun _ h => by cases h⟩
  | _, _, .cons r t => by
    obtain ⟨n, rfl, hn⟩ := r
    obtain ⟨ws, rfl, hw⟩ := paired_ints t
    refine ⟨n :: ws, rfl, fun k hk => ?_⟩
    rcases List.mem_cons.mp hk with z | z
    · rw [z]; exact hn
    · exact hw k z
theorem len__law_words (h : sp__law_words A K vs H Q E) : vs.length = 2 := by obtain ⟨_, _, rfl, _⟩ := h; rfl
theorem pure__law_words (h : sp__law_words A K vs H Q E) : t__law_words A K w { nx := fun _ H' => Q .non H', rt := Q } (start N__law_words vs) H := by
  obtain ⟨c, m, rfl, m0, m1, q⟩ := h
  obtain ⟨m, rfl⟩ := Int.eq_ofNat_of_zero_le m0
  refine ⟨_, rfl, szN (n := 2) (Nat.le_refl _), fun p hp => ⟨_, rfl, p, _, iV [9, 4294967296], rfl, rfl, upd_same, by omega, by omega, ?_, fun l hl => ?_⟩⟩
  · rw [Int.toNat_natCast, iV_len]
    exact szN (n := 1000) (by show 2 * m ≤ _; omega)
  rw [Int.toNat_natCast, iV_flat]
  have e1 := Same.new (o := .lst [V.int 9, V.int 4294967296]) hp
  refine ⟨c, l, _, rfl, .of upd_same, by rw [rep_len]; omega, rep_mem m, fun r rs H2 e2 hr dg => ?_⟩
  have e3 : Same H H2 := (Same.add e1 hl).trans e2
  refine ⟨_, rfl, _, rfl, by omega, by omega, fun D hD => ?_⟩
  rw [Int.toNat_natCast]
  refine lc_gen walk_range hD (List.range m) (by rw [List.length_range]) (by rw [List.length_range]; exact szN (n := 1000) (by omega)) (fun _ v _ => ∃ n, v = V.int n ∧ VW n) (fun _ _ _ _ _ z => z) (fun _ _ => trivial) ?_ ?_
  · rintro i a x H3 H4 C ha e ⟨rfl, rfl⟩ hC
    have hi : i < m := by
      have := (List.getElem?_eq_some_iff.mp ha).1
      rw [List.length_range] at this
      exact this
    obtain ⟨i1, i2⟩ := rep_at m i hi
    obtain ⟨r1, h1, d1⟩ := Paired.atR dg i1
    obtain ⟨r2, h2, d2⟩ := Paired.atR dg i2
    have g : SqL K H4 r (iV rs) := .of (e _ _ hr)
    refine ⟨rfl, _, rfl, _, rfl, _, _, rfl, rfl, .inl ⟨by decide, by decide⟩, r, _, _, _, rfl, rfl, g, atT (j := 2 * i) (by omega) (iV_get h1), ?_⟩
    refine ⟨_, rfl, _, rfl, _, _, rfl, rfl, .inl ⟨by decide, by decide⟩, _, _, rfl, rfl, r, _, _, _, rfl, rfl, g, atT (j := 2 * i + 1) (by omega) (iV_get h2), r1, r2, rfl, d2.1, d2.2, fun n H5 hn e5 => hC _ _ e5 ⟨n, rfl, hn⟩⟩
  · intro H3 us e hd hp2
    have hlen := Paired.len hp2
    rw [List.length_range] at hlen
    obtain ⟨ws, rfl, hw⟩ := paired_ints hp2
    rw [iV_len] at hlen
    exact q D ws H3 (e3.trans e) hd (by omega) hw
theorem join1 : ∀ xs : List Nat, TL.joinL [] (xs.map fun c => [c]) = xs
  | [] => rfl
  | [c] => rfl
  | c :: d :: r => by
    rw [List.map_cons, joinL_cons (by simp), join1 (d :: r)]
    rfl
theorem isName_of {n : T} {c : Nat} {r : T} (e : n = c :: r) (hl : n.length ≤ 16) (hn : n ∉ reserved) (ha : n.all nameC = true) (hc : lowC c = true) : isName n = true := by
  subst e
  unfold isName
  rw [if_neg, if_pos ha]
  · exact hc
  · rintro (z | z | z)
    · simp at z
    · omega
    · exact hn z
theorem len__law_name (h : sp__law_name A K vs H Q E) : vs.length = 1 := by obtain ⟨_, _, rfl, _⟩ := h; rfl
theorem pure__law_name (h : sp__law_name A K vs H Q E) : t__law_name A K w { nx := fun _ H' => Q .non H', rt := Q } (start N__law_name vs) H := by
  obtain ⟨p, rs, rfl, hq, dg, q⟩ := h
  have hlen : rs.length = 17 := by
    rw [Paired.len dg]
    decide
  obtain ⟨r0, h0, d0⟩ := Paired.atR dg (i := 0) (y := 16) rfl
  obtain ⟨r1, h1, d1⟩ := Paired.atR dg (i := 1) (y := 26) rfl
  obtain ⟨c1, ec1, _, cl, _⟩ := let_at d1.1 (by omega)
  have cl := cl d1.2
  have el : ("abcdefghijklmnopqrstuvwxyz0123456789" : Str) = S letL := lit _
  obtain ⟨m, rfl⟩ := Int.eq_ofNat_of_zero_le d0.1
  have hm : m < 16 := by omega
  refine ⟨_, rfl, _, rfl, p, _, _, _, rfl, rfl, hq, atT (j := 1) rfl (iV_get h1), S letL, _, c1, by rw [el], rfl, by rw [S_len, letL_len]; exact szN (n := 36) (by omega), ec1, ?_⟩
  refine ⟨⟨_, rfl⟩, _, rfl, _, rfl, _, rfl, p, _, _, _, rfl, rfl, hq, atT (j := 0) rfl (iV_get h0), _, _, rfl, rfl, _, rfl, p, _, rfl, hq, fun u hu => ?_⟩
  have ecut : cutV (iV rs) (some 2) (some (2 + (m : Int))) = iV ((rs.drop 2).take m) := by
    have z := cutV_mid (iV rs) 2 (2 + m) (by rw [iV_len, hlen]; omega)
    have e2 : ((2 + m : Nat) : Int) = 2 + (m : Int) := by omega
    rw [e2] at z
    have e3 : ((2 : Nat) : Int) = 2 := rfl
    rw [e3] at z
    rw [z, show 2 + m - 2 = m by omega]
    unfold iV
    rw [List.map_take, List.map_drop]
  rw [ecut]
  generalize hks : (rs.drop 2).take m = ks
  have kl : ks.length = m := by
    rw [← hks, List.length_take, List.length_drop, hlen]
    omega
  have kb : ∀ k ∈ ks, 0 ≤ k ∧ k < 36 := fun k hk => by
    rw [← hks] at hk
    have hk := List.mem_of_mem_take hk
    obtain ⟨j, hj⟩ := List.getElem?_of_mem hk
    rw [List.getElem?_drop] at hj
    obtain ⟨n, hn, d⟩ := Paired.at dg hj
    have hn2 : n = 36 := by
      have hjl : 2 + j < 17 := by
        have := (List.getElem?_eq_some_iff.mp hj).1
        omega
      have : ∀ i : Fin 17, 2 ≤ i.val → nameSizes[i.val]? = some 36 := by decide +kernel
      have := this ⟨2 + j, hjl⟩ (by show 2 ≤ 2 + j; omega)
      rw [this] at hn
      exact (Option.some.inj hn).symm
    rw [hn2] at d
    exact d
  have e1 := Same.new (o := .lst (iV ks)) hu
  refine ⟨u, rfl, ⟨_, .of upd_same⟩, fun D hD => ?_⟩
  refine lc_map (walk_list (xs := iV ks)) hD ks (iV_len ks) (szN (n := 100) (by omega)) (fun k => .str (S [letL.getD k.toNat 0])) (fun H1 e => .of (e _ _ upd_same)) ?_ ?_
  · rintro i k x H1 H2 C hk e ⟨rfl, hx⟩ hC
    rw [iV_get hk] at hx
    have hx := Option.some.inj hx
    subst hx
    obtain ⟨b0, b1⟩ := kb k (List.mem_of_getElem? hk)
    obtain ⟨c, ec, _, _, e3⟩ := let_at b0 b1
    refine ⟨rfl, _, rfl, _, rfl, S letL, _, c, by rw [el], rfl, by rw [S_len, letL_len]; exact szN (n := 36) (by omega), ec, ?_⟩
    rw [e3]
    exact hC _ (Same.refl _)
  · intro H2 e hd
    have ee := e1.trans e
    generalize hts : (ks.map fun k => letL.getD k.toNat 0) = rest
    have htl : rest.length = m := by rw [← hts, List.length_map, kl]
    have hta : rest.all nameC = true := by
      rw [← hts, List.all_map]
      refine List.all_eq_true.mpr fun k hk => ?_
      obtain ⟨b0, b1⟩ := kb k hk
      obtain ⟨c, _, hc, _, e3⟩ := let_at b0 b1
      show nameC (letL.getD k.toNat 0) = true
      rw [← e3]
      exact hc
    have hd : H2 D = some (.lst (sV (rest.map fun c => [c]))) := by
      rw [hd, ← hts]
      unfold sV
      rw [List.map_map, List.map_map]
      rfl
    have es : ("" : Str) = S [] := lit _
    rw [es]
    refine join_it (.of hd) ?_ ?_
    · rw [List.map_map, List.length_map, List.length_nil, Nat.mul_zero]
      have := sum_le (List.length ∘ fun c : Nat => [c]) 1 rest fun _ _ => Nat.le_refl _
      omega
    rw [join1]
    have ec : V.str ⟨#[c1]⟩ = V.str (S [c1]) := rfl
    rw [ec]
    refine ⟨_, _, rfl, rfl, catL rfl rfl (by rw [htl]; show 1 + _ ≤ _; omega), ?_⟩
    rw [catE rfl rfl]
    have hall : (c1 :: rest).all nameC = true := by
      rw [List.all_cons, hta, Bool.and_true]
      unfold nameC
      rw [cl]
      rfl
    refine ⟨_, rfl, szN (n := 3) (Nat.le_refl _), fun z hz => ?_⟩
    have e4 := Same.add (o := .lst [.str ("num" : Str), .str ("mixed" : Str), .str ("unset" : Str)]) ee hz
    refine ⟨z, _, rfl, .inl (.of upd_same), rfl, rfl, _, rfl, ?_⟩
    rw [if_neg Bool.false_ne_true]
    have er : [V.str ("num" : Str), V.str ("mixed" : Str), V.str ("unset" : Str)] = [("num" : Str), "mixed", "unset"].map V.str := rfl
    rw [er, in_res]
    have el2 : [c1] ++ rest = c1 :: rest := rfl
    rw [el2]
    refine itD (fun h3 => ?_) (fun h3 => ?_)
    · have e0 : ("0" : Str) = S [48] := lit _
      have h5 : (c1 :: rest).length ≤ 5 := by
        unfold reserved at h3
        simp only [List.mem_cons, List.not_mem_nil, or_false] at h3
        rcases h3 with z | z | z
        · rw [z]; decide
        · rw [z]; decide
        · rw [z]; decide
      refine ⟨_, rfl, _, _, rfl, rfl, catL rfl e0 (by show _ + 1 ≤ _; omega), ?_⟩
      rw [catE rfl e0]
      refine q _ _ (isName_of (c := c1) (r := rest ++ [48]) rfl ?_ ?_ ?_ cl) e4
      · rw [List.length_append]
        show _ + 1 ≤ 16
        omega
      · intro z
        have z1 : (c1 :: rest ++ [48]).getLast? = some 48 := List.getLast?_concat
        unfold reserved at z
        simp only [List.mem_cons, List.not_mem_nil, or_false] at z
        rcases z with z | z | z
        · rw [z] at z1; exact absurd z1 (by decide)
        · rw [z] at z1; exact absurd z1 (by decide)
        · rw [z] at z1; exact absurd z1 (by decide)
      · rw [List.all_append, hall]
        rfl
    · refine ⟨_, rfl, q _ _ (isName_of rfl ?_ h3 hall cl) e4⟩
      rw [List.length_cons, htl]
      omega
theorem len__law_row (h : sp__law_row A K vs H Q E) : vs.length = 1 := by obtain ⟨_, _, rfl, _⟩ := h; rfl
/-- a tuple is a tuple -/
theorem ty_tup {a : Addr} {xs : List V} (h : SqT K H a xs) : TyX K H (.ref a) (.type "tuple") := by
  rcases h with (h | ⟨o, h⟩) | ⟨o, its, n, h1, h2, _⟩
  · exact .base (.tup h)
  · exact .fTuple h
  · exact .kTuple h1 h2
theorem isi_tup {a : Addr} {xs : List V} (h : SqT K H a xs) (q : Q (.bl true) H) : rIsi K [.ref a, .ty "tuple"] H Q :=
  ⟨_, _, _, _, true, rfl, .ty "tuple", ty_tup h, kit_ty (by decide +kernel), q⟩
theorem pure__law_row (h : sp__law_row A K vs H Q E) : t__law_row A K w { nx := fun _ H' => Q .non H', rt := Q } (start N__law_row vs) H := by
  obtain ⟨v, ws, rfl, ⟨a, rfl, ha⟩, hl, q⟩ := h
  refine ⟨_, rfl, _, _, _, _, true, rfl, .ty "tuple", ty_tup ha, kit_ty (by decide +kernel), true, rfl, ?_⟩
  rw [if_pos rfl]
  refine ⟨_, rfl, a, rfl, ⟨_, ha⟩, fun D hD => ?_⟩
  refine lc_it (walk_tup (xs := iV ws)) (fun i H' => Same H H' ∧ H' D = some (.lst [])) ⟨Same.new hD, upd_same⟩ (fun i H' _ z => smT z.1 ha) ?_ ?_
  · rintro i x H1 H2 hi ⟨e, hd⟩ ⟨rfl, hx⟩
    have hi' : i < ws.length := by rw [iV_len] at hi; exact hi
    rw [iV_get (List.getElem?_eq_getElem hi')] at hx
    have hx := Option.some.inj hx
    subst hx
    refine ⟨rfl, _, rfl, _, rfl, true, rfl, ?_⟩
    exact ⟨e, hd⟩
  · rintro H1 ⟨e, hd⟩
    exact ⟨D, [], rfl, .inl (.of hd), rfl, q _ e⟩
theorem len__law_sound (h : sp__law_sound A K vs H Q E) : vs.length = 1 := by obtain ⟨_, _, rfl, _⟩ := h; rfl
theorem pure__law_sound (T : Txt K mg w A) (h : sp__law_sound A K vs H Q E) : t__law_sound A K w { nx := fun _ H' => Q .non H', rt := Q } (start N__law_sound vs) H := by
  obtain ⟨p, D, rfl, ⟨dx, v1, v2, v3, v4, v5, hp, w1, ⟨a2, us2, rfl, s2, p2⟩, w3, w4, ⟨a5, us5, rfl, s5, p5⟩⟩, sm, q⟩ := h
  refine ⟨_, rfl, _, _, _, _, true, rfl, .own _, T.isp _ _ _ _ hp, T.kit, true, rfl, ?_⟩
  refine ⟨_, rfl, p, A.C, dx, _, _, rfl, hp, T.cls, T.nS, look1, _, _, rfl, w1, sm.st, fun H1 e1 => ⟨true, rfl, ?_⟩⟩
  refine ⟨_, rfl, p, A.C, dx, _, _, rfl, e1 _ _ hp, T.cls, T.nW, look3, _, _, rfl, w3.mono (Tm.of e1), sm.wa, fun H2 e2 => ⟨true, rfl, ?_⟩⟩
  have e2 := e1.trans e2
  refine ⟨_, rfl, p, A.C, dx, _, _, rfl, e2 _ _ hp, T.cls, T.nP, look4, _, _, rfl, w4.mono (Tm.of e2), sm.pa, fun H3 e3 => ⟨true, rfl, ?_⟩⟩
  have e3 := e2.trans e3
  refine ⟨_, rfl, p, A.C, dx, _, _, rfl, e3 _ _ hp, T.cls, T.nF, look2, _, _, _, _, true, rfl, .ty "tuple", ty_tup (smT e3 s2), kit_ty (by decide +kernel), true, rfl, ?_⟩
  refine ⟨_, rfl, p, A.C, dx, _, _, rfl, e3 _ _ hp, T.cls, T.nO, look5, _, _, _, _, true, rfl, .ty "tuple", ty_tup (smT e3 s5), kit_ty (by decide +kernel), true, rfl, ?_⟩
  refine ⟨_, rfl, p, A.C, dx, _, _, rfl, e3 _ _ hp, T.cls, T.nF, look2, a2, rfl, ⟨_, smT e3 s2⟩, ?_⟩
  refine for_it (walk_tup (xs := us2)) (fun i σ H' => Same H H' ∧ ∃ x, σ = [some (.ref p), x, none]) ⟨e3, _, rfl⟩ (fun i σ H' _ z => smT z.1 s2) ?_ ?_
  · rintro i x σ H4x H4 hi ⟨e4, x', rfl⟩ ⟨rfl, hx⟩
    obtain ⟨f, hf, ft⟩ := Paired.at p2 hx
    obtain ⟨a, s, t, rfl, sq, ws, wt⟩ := FT.mono (Tm.of e4) ft
    obtain ⟨m1, m2⟩ := sm.fs f (List.mem_of_getElem? hf)
    refine ⟨_, rfl, _, _, _, _, true, rfl, .ty "tuple", ty_tup sq, kit_ty (by decide +kernel), true, rfl, ?_⟩
    refine ⟨_, rfl, a, _, rfl, .inr sq, rfl, _, rfl, ?_⟩
    refine ⟨_, rfl, a, _, 0, _, rfl, rfl, sq, atT (j := 0) rfl rfl, _, _, _, _, true, rfl, .ty "str", .base (.str _), kit_ty (by decide +kernel), true, rfl, ?_⟩
    refine ⟨_, rfl, a, _, 1, _, rfl, rfl, sq, atT (j := 1) rfl rfl, _, rfl, true, rfl, ?_⟩
    refine ⟨_, rfl, a, _, 2, _, rfl, rfl, sq, atT (j := 2) rfl rfl, _, _, rfl, ws, m1, fun H5 e5 => ⟨true, rfl, ?_⟩⟩
    refine ⟨_, rfl, a, _, 3, _, rfl, rfl, smT e5 sq, atT (j := 3) rfl rfl, _, _, rfl, wt.mono (Tm.of e5), m2, fun H6 e6 => ⟨true, rfl, ?_⟩⟩
    exact ⟨(e4.trans e5).trans e6, _, rfl⟩
  · rintro σ H4 ⟨e4, x', rfl⟩
    refine ⟨_, rfl, p, A.C, dx, _, _, rfl, e4 _ _ hp, T.cls, T.nO, look5, a5, rfl, ⟨_, smT e4 s5⟩, ?_⟩
    refine for_it (walk_tup (xs := us5)) (fun i σ H' => Same H H' ∧ ∃ y, σ = [some (.ref p), x', y]) ⟨e4, _, rfl⟩ (fun i σ H' _ z => smT z.1 s5) ?_ ?_
    · rintro i x σ H5x H5 hi ⟨e5, y', rfl⟩ ⟨rfl, hx⟩
      obtain ⟨o, ho, ot⟩ := Paired.at p5 hx
      obtain ⟨a, s, rfl, sq, ws⟩ := OT.mono (Tm.of e5) ot
      refine ⟨_, rfl, _, _, _, _, true, rfl, .ty "tuple", ty_tup sq, kit_ty (by decide +kernel), true, rfl, ?_⟩
      refine ⟨_, rfl, a, _, rfl, .inr sq, rfl, _, rfl, ?_⟩
      refine ⟨_, rfl, a, _, 0, _, rfl, rfl, sq, atT (j := 0) rfl rfl, _, _, _, _, true, rfl, .ty "str", .base (.str _), kit_ty (by decide +kernel), true, rfl, ?_⟩
      refine ⟨_, rfl, a, _, 1, _, rfl, rfl, sq, atT (j := 1) rfl rfl, _, _, rfl, ws, sm.os o (List.mem_of_getElem? ho), fun H6 e6 => ⟨true, rfl, ?_⟩⟩
      exact ⟨e5.trans e6, _, rfl⟩
    · rintro σ H5 ⟨e5, y', rfl⟩
      exact q _ e5
theorem len__law_same_picture (h : sp__law_same_picture A K vs H Q E) : vs.length = 2 := by obtain ⟨_, _, _, rfl, _⟩ := h; rfl
theorem pure__law_same_picture (T : Txt K mg w A) (h : sp__law_same_picture A K vs H Q E) : t__law_same_picture A K w { nx := fun _ H' => Q .non H', rt := Q } (start N__law_same_picture vs) H := by
  obtain ⟨a, v, D, rfl, ⟨dx, v1, v2, v3, v4, v5, ha, p1, p2, p3, p4, p5⟩, ⟨b, u1, u2, u3, u4, u5, rfl, hb, r1, r2, r3, r4, r5⟩, hv, q⟩ := h
  have hF := tup_lay (xs := D.frames) fun f hf => fD_lay (hv.fr f hf)
  have hO := tup_lay (xs := D.objs) fun o ho => oD_lay (hv.ob o ho)
  refine ⟨_, rfl, a, A.C, dx, _, _, rfl, ha, T.cls, T.nS, look1, _, rfl, b, _, 0, _, rfl, rfl, hb, atT (j := 0) rfl rfl, eq_it p1.dp r1.dp (wD_ok _) ⟨true, rfl, ?_⟩⟩
  rw [if_pos rfl]
  refine ⟨_, rfl, a, A.C, dx, _, _, rfl, ha, T.cls, T.nF, look2, _, rfl, b, _, 1, _, rfl, rfl, hb, atT (j := 1) rfl rfl, eq_it (p2.dp fun _ _ z => FT.dp z) (r2.dp fun _ _ z => FT.dp z) hF ⟨true, rfl, ?_⟩⟩
  rw [if_pos rfl]
  refine ⟨_, rfl, a, A.C, dx, _, _, rfl, ha, T.cls, T.nW, look3, _, rfl, b, _, 2, _, rfl, rfl, hb, atT (j := 2) rfl rfl, eq_it p3.dp r3.dp (wD_ok _) ⟨true, rfl, ?_⟩⟩
  rw [if_pos rfl]
  refine ⟨_, rfl, a, A.C, dx, _, _, rfl, ha, T.cls, T.nP, look4, _, rfl, b, _, 3, _, rfl, rfl, hb, atT (j := 3) rfl rfl, eq_it p4.dp r4.dp (wD_ok _) ⟨true, rfl, ?_⟩⟩
  rw [if_pos rfl]
  exact ⟨_, rfl, a, A.C, dx, _, _, rfl, ha, T.cls, T.nO, look5, _, rfl, b, _, 4, _, rfl, rfl, hb, atT (j := 4) rfl rfl, eq_it (p5.dp fun _ _ z => OT.dp z) (r5.dp fun _ _ z => OT.dp z) hO q⟩
end
end Qb

/-! Kq1 -/
set_option Elab.async false
set_option linter.all false
set_option maxRecDepth 100000
set_option maxHeartbeats 2000000
/-! Sizes of drawn pictures (no program here). -/
namespace Qb
open PySem PySem.Spec PyProof.Rows L2
theorem line_ws_le {f : T} {l : List Int} (h : ∀ w ∈ l, VW w) : (line (f, .ws l)).length ≤ f.length + 13 * l.length + 1 := by
  have h1 := joinL_len [32] (toksOf f (.ws l))
  have h2 := sum_le (List.length ∘ wtext) 12 l fun w hw => wtext_len (h w hw)
  have e : toksOf f (.ws l) = f :: l.map wtext := rfl
  rw [e, List.map_cons, List.sum_cons, List.map_map, List.length_cons, List.length_map] at h1
  have e2 : ([32] : T).length = 1 := rfl
  rw [e2] at h1
  show (TL.joinL [32] (f :: l.map wtext)).length ≤ _
  omega
theorem line_ob_le {f n : T} {l : List Int} (h : ∀ w ∈ l, VW w) : (line (f, .ob n l)).length ≤ f.length + n.length + 13 * l.length + 2 := by
  have h1 := joinL_len [32] (toksOf f (.ob n l))
  have h2 := sum_le (List.length ∘ wtext) 12 l fun w hw => wtext_len (h w hw)
  have e : toksOf f (.ob n l) = f :: n :: l.map wtext := rfl
  rw [e, List.map_cons, List.sum_cons, List.map_cons, List.sum_cons, List.map_map, List.length_cons, List.length_cons, List.length_map] at h1
  have e2 : ([32] : T).length = 1 := rfl
  rw [e2] at h1
  show (TL.joinL [32] (f :: n :: l.map wtext)).length ≤ _
  omega
theorem line_fr_le {f n : T} {k : Int} (h : k.natAbs < 10 ^ 10) : (line (f, .fr n k)).length ≤ f.length + n.length + 14 := by
  have h1 := joinL_len [32] (toksOf f (.fr n k))
  have h2 := showI_len h
  have e : toksOf f (.fr n k) = [f, n, showI k] := rfl
  rw [e] at h1
  simp only [List.map_cons, List.map_nil, List.sum_cons, List.sum_nil, List.length_cons, List.length_nil] at h1
  show (TL.joinL [32] [f, n, showI k]).length ≤ _
  omega
theorem rend_st_le : ∀ ws : List Int, (∀ w ∈ ws, VW w) → (rend (ws.map itS)).length ≤ 21 * ws.length
  | [], _ => Nat.le_refl _
  | w :: r, h => by
    have ih := rend_st_le r fun x hx => h x (List.mem_cons_of_mem _ hx)
    have h1 := line_ws_le (f := sStatic) (l := [w]) fun x hx => by
      rw [List.mem_singleton.mp hx]
      exact h w (List.mem_cons_self ..)
    have e : sStatic.length = 6 := by decide
    have e5 : (rend ((w :: r).map itS)).length = (line (sStatic, .ws [w])).length + 1 + (rend (r.map itS)).length := by
      rw [List.map_cons, rend_cons, List.length_append, List.length_append]
      rfl
    have e4 : [w].length = 1 := rfl
    rw [e5, List.length_cons]
    rw [e, e4] at h1
    omega
/-- how long the parts of a frame are -/
def FrB (f : Fm) : Prop := VF f ∧ f.slots.length ≤ 24 ∧ f.stack.length ≤ 31
theorem rend_fr_le : ∀ fs : List Fm, (∀ f ∈ fs, FrB f) → (rend (fs.flatMap itF)).length ≤ 800 * fs.length
  | [], _ => Nat.le_refl _
  | f :: r, h => by
    have ih := rend_fr_le r fun x hx => h x (List.mem_cons_of_mem _ hx)
    obtain ⟨⟨n1, n2, n3, n4, n5⟩, b1, b2⟩ := h f (List.mem_cons_self ..)
    have h1 := line_fr_le (f := sFrame) (n := f.name) (k := f.place) (by omega)
    have h2 := line_ws_le (f := sSlots) n4
    have h3 := line_ws_le (f := sStack) n5
    have nl := isName_len n1
    have c1 : sFrame.length = 5 := by decide
    have c2 : sSlots.length = 5 := by decide
    have c3 : sStack.length = 5 := by decide
    have e3 : ([10] : T).length = 1 := rfl
    have e4 : (rend []).length = 0 := rfl
    rw [List.flatMap_cons, rend_append, List.length_append, List.length_cons]
    have e2 : itF f = [(sFrame, .fr f.name f.place), (sSlots, .ws f.slots), (sStack, .ws f.stack)] := rfl
    rw [e2, rend_cons, rend_cons, rend_cons]
    simp only [List.length_append, e3, e4]
    omega
theorem rend_ob_le : ∀ os : List Ob, (∀ o ∈ os, VO o) → (rend (os.map itO)).length ≤ 26 * os.length + 13 * (os.map fun o => o.pay.length).sum
  | [], _ => Nat.zero_le _
  | o :: r, h => by
    have ih := rend_ob_le r fun x hx => h x (List.mem_cons_of_mem _ hx)
    obtain ⟨n1, n2⟩ := h o (List.mem_cons_self ..)
    have h1 := line_ob_le (f := sObject) (n := o.name) n2
    have nl := isName_len n1
    have c1 : sObject.length = 6 := by decide
    have e5 : (rend ((o :: r).map itO)).length = (line (sObject, .ob o.name o.pay)).length + 1 + (rend (r.map itO)).length := by
      rw [List.map_cons, rend_cons, List.length_append, List.length_append]
      rfl
    rw [e5, List.length_cons, List.map_cons, List.sum_cons]
    omega
theorem render_le {D : Pic} (hv : Valid D) (h1 : D.statics.length ≤ 24) (h2 : D.frames.length ≤ 100) (h3 : ∀ f ∈ D.frames, FrB f) (h4 : D.watched.length ≤ 30) (h5 : D.parted.length ≤ 30) (h6 : D.objs.length ≤ 100) (h7 : (D.objs.map fun o => o.pay.length).sum ≤ 5000) : (render D).length ≤ 200000 := by
  have a1 := rend_st_le D.statics hv.st
  have a2 := rend_fr_le D.frames h3
  have a3 := line_ws_le (f := sWatched) hv.wa
  have a4 := line_ws_le (f := sParted) hv.pa
  have a5 := rend_ob_le D.objs hv.ob
  have c1 : sWatched.length = 7 := by decide
  have c2 : sParted.length = 6 := by decide
  have e3 : ([10] : T).length = 1 := rfl
  have e : render D = rend (D.statics.map itS) ++ (rend (D.frames.flatMap itF) ++ ((line (sWatched, .ws D.watched) ++ [10]) ++ ((line (sParted, .ws D.parted) ++ [10]) ++ rend (D.objs.map itO)))) := by
    unfold render items itemsF itemsW
    rw [rend_append, rend_append, rend_cons, rend_cons]
  rw [e]
  simp only [List.length_append, e3]
  omega
/-- with the frames and the objects turned, watched and parted swapped -/
def turned (D : Pic) : Pic := ⟨D.statics, D.frames.reverse, D.parted, D.watched, D.objs.reverse⟩
theorem turned_valid {D : Pic} (h : Valid D) : Valid (turned D) :=
  ⟨h.st, fun f hf => h.fr f (List.mem_reverse.mp hf), h.pa, h.wa, fun o ho => h.ob o (List.mem_reverse.mp ho)⟩
theorem rend_len_sum (r : List Item) : (rend r).length = (r.map fun it => (line it).length + 1).sum := by
  induction r with
  | nil => rfl
  | cons it r ih =>
    rw [rend_cons, List.length_append, List.length_append, ih, List.map_cons, List.sum_cons]
    rfl
theorem fm_rev : ∀ fs : List Fm, (rend (fs.reverse.flatMap itF)).length = (rend (fs.flatMap itF)).length
  | [] => rfl
  | f :: r => by
    have e : [f].flatMap itF = itF f := by simp
    have e2 : (f :: r).flatMap itF = itF f ++ r.flatMap itF := List.flatMap_cons
    rw [List.reverse_cons, List.flatMap_append, rend_append, List.length_append, fm_rev r, e, e2, rend_append, List.length_append]
    omega
theorem ob_rev (os : List Ob) : (rend (os.reverse.map itO)).length = (rend (os.map itO)).length := by
  rw [rend_len_sum, rend_len_sum, List.map_reverse, List.map_reverse, List.sum_reverse]
theorem sw_len (a b : List Int) : (line (sWatched, .ws a)).length + (line (sParted, .ws b)).length = (line (sWatched, .ws b)).length + (line (sParted, .ws a)).length := by
  have e : ∀ (f : T) (l : List Int), (line (f, .ws l)).length = f.length + (line ([], .ws l)).length := fun f l => by
    show (TL.joinL [32] (f :: l.map wtext)).length = _ + (TL.joinL [32] ([] :: l.map wtext)).length
    cases l with
    | nil => rfl
    | cons x r =>
      rw [List.map_cons, joinL_cons (p := f) (by simp), joinL_cons (p := []) (by simp), List.length_append, List.length_append]
      show _ = f.length + (([32] : T) ++ TL.joinL [32] (wtext x :: r.map wtext)).length
      rw [List.length_append]
  rw [e sWatched, e sParted, e sWatched b, e sParted a]
  omega
theorem turned_len (D : Pic) : (render (turned D)).length = (render D).length := by
  have e : ∀ D : Pic, render D = rend (D.statics.map itS) ++ (rend (D.frames.flatMap itF) ++ ((line (sWatched, .ws D.watched) ++ [10]) ++ ((line (sParted, .ws D.parted) ++ [10]) ++ rend (D.objs.map itO)))) := fun D => by
    unfold render items itemsF itemsW
    rw [rend_append, rend_append, rend_cons, rend_cons]
  rw [e, e]
  unfold turned
  simp only [List.length_append, fm_rev, ob_rev]
  have := sw_len D.watched D.parted
  omega
end Qb

/-! Kq2 -/
set_option Elab.async false
set_option linter.all false
set_option maxRecDepth 100000
set_option maxHeartbeats 2000000
/-! Reading: a picture is drawn. -/
namespace Qb
open PySem PySem.Spec PyProof.Rows L2
theorem cut_iV {ws : List Int} {n : Int} (h : 0 ≤ n) : cutV (iV ws) none (some n) = iV (ws.take n.toNat) := by
  obtain ⟨j, rfl⟩ := Int.eq_ofNat_of_zero_le h
  rw [cutV_to]
  unfold iV
  rw [List.map_take]
  rfl
theorem cut_iV_from {ws : List Int} (n : Nat) : cutV (iV ws) (some (n : Int)) none = iV (ws.drop n) := by
  rw [cutV_from]
  unfold iV
  rw [List.map_drop]
/-- one of two by a test -/
theorem at_two (a b : V) (k : Bool) : atI [a, b] (if k = true then 1 else 0) = some (if k = true then b else a) := by
  cases k <;> rfl
theorem pick {a b : Int} {k : Bool} : (if k = true then V.int b else V.int a) = V.int (if k = true then b else a) := by
  cases k <;> rfl
theorem cut_17 {ws : List Int} {n : Int} (h0 : 0 ≤ n) (h1 : n ≤ 31) (hl : ws.length = 24) : cutV (iV ws ++ iV ws) (some 17) (some (17 + n)) = iV (((ws ++ ws).drop 17).take n.toNat) := by
  obtain ⟨j, rfl⟩ := Int.eq_ofNat_of_zero_le h0
  have z := cutV_mid (iV ws ++ iV ws) 17 (17 + j) (by rw [List.length_append, iV_len]; omega)
  have e2 : ((17 + j : Nat) : Int) = 17 + (j : Int) := by omega
  have e3 : ((17 : Nat) : Int) = 17 := rfl
  rw [e2, e3] at z
  rw [z, show 17 + j - 17 = j by omega]
  unfold iV
  rw [← List.map_append, List.map_take, List.map_drop]
  rfl
theorem Paired.drop {α β : Type} {F : α → β → Prop} : ∀ (n : Nat) {xs : List α} {ys : List β}, Paired F xs ys → Paired F (xs.drop n) (ys.drop n)
  | 0, _, _, h => h
  | n + 1, _, _, .nil => .nil
  | n + 1, _, _, .cons _ t => Paired.drop n t
def frS : List Int := [200, 8, 7] ++ nameSizes
def obS : List Int := [9] ++ nameSizes
def hdS : List Int := [8, 5, 5, 6, 6, 9, 25, 46, 61]
/-- ahead of frame i -/
def Fri (K : Frag) (G : Hp) (p q1 q2 q3 q4 q5 lf : Addr) (i : Nat) (σ : L2.St) (H' : Hp) : Prop := Same G H' ∧ ∃ us fs x8 x9 x10 x11 x12 x13, σ = [some (.ref p), some (.int 0), some (.ref q1), some (.ref q2), some (.ref q3), some (.ref q4), some (.ref q5), some (.ref lf), x8, x9, x10, x11, x12, x13] ∧
  H' lf = some (.lst us) ∧ Paired (FT K H') us fs ∧ us.length = i ∧ ∀ f ∈ fs, FrB f
/-- ahead of object i -/
def Obi (K : Frag) (G : Hp) (p q1 q2 q3 q4 q5 lf lo : Addr) (i : Nat) (σ : L2.St) (H' : Hp) : Prop := Same G H' ∧ ∃ us os x8 x10 x11 x12 x13, σ = [some (.ref p), some (.int 0), some (.ref q1), some (.ref q2), some (.ref q3), some (.ref q4), some (.ref q5), some (.ref lf), x8, some (.ref lo), x10, x11, x12, x13] ∧
  H' lo = some (.lst us) ∧ Paired (OT K H') us os ∧ us.length = i ∧ (∀ o ∈ os, VO o) ∧ (os.map fun o => o.pay.length).sum ≤ 1000 + 31 * i
section
variable {A : Ad} {K : Frag} {w : World} {mg : Str → Option Value} {vs : List V} {H : Hp} {Q : VK} {E : XK}
theorem len__law_free (h : sp__law_free A K vs H Q E) : vs.length = 2 := by obtain ⟨_, _, rfl, _⟩ := h; rfl
theorem pure__law_free (h : sp__law_free A K vs H Q E) : t__law_free A K w { nx := fun _ H' => Q .non H', rt := Q } (start N__law_free vs) H := by
  obtain ⟨p, ns, rfl, hq, hn, q⟩ := h
  refine ⟨_, rfl, _, rfl, p, ns, 0, rfl, hq, hn, by decide, by decide, fun c0 => ?_⟩
  refine ⟨szN (n := 9) (Nat.le_refl _), fun z1 hz1 => ⟨c0, z1, hdS, rfl, .of upd_same, by decide, by decide, fun q1 hd H1 e1 g1 dg => ?_⟩⟩
  have e1 : Same H H1 := (Same.new hz1).trans e1
  obtain ⟨h0, i0, d0⟩ := Paired.atR dg (i := 0) (y := 8) rfl
  obtain ⟨h1, i1, d1⟩ := Paired.atR dg (i := 1) (y := 5) rfl
  obtain ⟨h2, i2, d2⟩ := Paired.atR dg (i := 2) (y := 5) rfl
  obtain ⟨h3, i3, d3⟩ := Paired.atR dg (i := 3) (y := 6) rfl
  obtain ⟨h4, i4, d4⟩ := Paired.atR dg (i := 4) (y := 6) rfl
  obtain ⟨h5, i5, d5⟩ := Paired.atR dg (i := 5) (y := 9) rfl
  obtain ⟨h6, i6, d6⟩ := Paired.atR dg (i := 6) (y := 25) rfl
  obtain ⟨h7, i7, d7⟩ := Paired.atR dg (i := 7) (y := 46) rfl
  obtain ⟨h8, i8, d8⟩ := Paired.atR dg (i := 8) (y := 61) rfl
  have r1 : Same H1 H1 := Same.refl H1
  -- many = [.., ..]
  refine ⟨_, rfl, q1, _, _, _, rfl, rfl, .of (r1 _ _ g1), atT (j := 1) rfl (iV_get i1), _, rfl, q1, _, _, _, rfl, rfl, .of (r1 _ _ g1), atT (j := 6) rfl (iV_get i6), szN (n := 2) (Nat.le_refl _), fun a1 ha1 => ?_⟩
  have s1 := Same.add (o := .lst [.int h1, .int h6]) r1 ha1
  generalize hG1 : upd H1 a1 (.lst [.int h1, .int h6]) = G1 at s1
  have ga1 : G1 a1 = some (.lst [.int h1, .int h6]) := by rw [← hG1, upd_same]
  refine ⟨_, rfl, q1, _, _, _, rfl, rfl, .of (s1 _ _ g1), atT (j := 0) rfl (iV_get i0), rfl, _, rfl, a1, _, _, _, rfl, rfl, .of ga1, at_two _ _ _, ?_⟩
  rw [pick]
  refine ⟨_, rfl, q1, _, _, _, rfl, rfl, .of (s1 _ _ g1), atT (j := 2) rfl (iV_get i2), _, rfl, q1, _, _, _, rfl, rfl, .of (s1 _ _ g1), atT (j := 7) rfl (iV_get i7), szN (n := 2) (Nat.le_refl _), fun a2 ha2 => ?_⟩
  have s2 := Same.add (o := .lst [.int h2, .int h7]) s1 ha2
  generalize hG2 : upd G1 a2 (.lst [.int h2, .int h7]) = G2 at s2
  have ga2 : G2 a2 = some (.lst [.int h2, .int h7]) := by rw [← hG2, upd_same]
  refine ⟨_, rfl, q1, _, _, _, rfl, rfl, .of (s2 _ _ g1), atT (j := 0) rfl (iV_get i0), rfl, _, rfl, a2, _, _, _, rfl, rfl, .of ga2, at_two _ _ _, ?_⟩
  rw [pick]
  have bm0 : ∀ k : Bool, 0 ≤ (if k = true then h6 else h1) ∧ (if k = true then h6 else h1) ≤ 24 := fun k => by cases k <;> simp <;> omega
  have bm1 : ∀ k : Bool, 0 ≤ (if k = true then h7 else h2) ∧ (if k = true then h7 else h2) ≤ 45 := fun k => by cases k <;> simp <;> omega
  generalize hm0 : (if decide (V.int h0 = V.int 1) = true then h6 else h1) = m0
  generalize hm1 : (if decide (V.int h0 = V.int 2) = true then h7 else h2) = m1
  have b0 : 0 ≤ m0 ∧ m0 ≤ 24 := by rw [← hm0]; exact bm0 _
  have b1 : 0 ≤ m1 ∧ m1 ≤ 45 := by rw [← hm1]; exact bm1 _
  refine ⟨szN (n := 2) (Nat.le_refl _), fun a3 ha3 => ?_⟩
  have s3 := Same.add (o := .lst [.int m0, .int m1]) s2 ha3
  generalize hG3 : upd G2 a3 (.lst [.int m0, .int m1]) = G3 at s3
  have ga3 : G3 a3 = some (.lst [.int m0, .int m1]) := by rw [← hG3, upd_same]
  refine ⟨_, rfl, _, rfl, q1, _, _, _, rfl, rfl, .of (s3 _ _ g1), atT (j := 3) rfl (iV_get i3), szN (n := 2) (Nat.le_refl _), fun a4 ha4 => ?_⟩
  have s4 := Same.add (o := .lst [.int h3, .int 30]) s3 ha4
  generalize hG4 : upd G3 a4 (.lst [.int h3, .int 30]) = G4 at s4
  have ga4 : G4 a4 = some (.lst [.int h3, .int 30]) := by rw [← hG4, upd_same]
  have t4 : Same G3 G4 := by rw [← hG4]; exact Same.new ha4
  refine ⟨_, rfl, q1, _, _, _, rfl, rfl, .of (s4 _ _ g1), atT (j := 0) rfl (iV_get i0), rfl, _, rfl, a4, _, _, _, rfl, rfl, .of ga4, at_two _ _ _, ?_⟩
  rw [pick]
  refine ⟨_, rfl, q1, _, _, _, rfl, rfl, .of (s4 _ _ g1), atT (j := 4) rfl (iV_get i4), _, rfl, q1, _, _, _, rfl, rfl, .of (s4 _ _ g1), atT (j := 5) rfl (iV_get i5), _, rfl, q1, _, _, _, rfl, rfl, .of (s4 _ _ g1), atT (j := 8) rfl (iV_get i8), szN (n := 2) (Nat.le_refl _), fun a5 ha5 => ?_⟩
  have s5 := Same.add (o := .lst [.int h5, .int h8]) s4 ha5
  generalize hG5 : upd G4 a5 (.lst [.int h5, .int h8]) = G5 at s5
  have ga5 : G5 a5 = some (.lst [.int h5, .int h8]) := by rw [← hG5, upd_same]
  have t5 : Same G4 G5 := by rw [← hG5]; exact Same.new ha5
  refine ⟨_, rfl, q1, _, _, _, rfl, rfl, .of (s5 _ _ g1), atT (j := 0) rfl (iV_get i0), rfl, _, rfl, a5, _, _, _, rfl, rfl, .of ga5, at_two _ _ _, ?_⟩
  rw [pick]
  have bm2 : ∀ k : Bool, 0 ≤ (if k = true then 30 else h3) ∧ (if k = true then 30 else h3) ≤ 30 := fun k => by cases k <;> simp <;> omega
  have bm4 : ∀ k : Bool, 0 ≤ (if k = true then h8 else h5) ∧ (if k = true then h8 else h5) ≤ 60 := fun k => by cases k <;> simp <;> omega
  generalize hm2 : (if decide (V.int h0 = V.int 3) = true then 30 else h3) = m2
  generalize hm4 : (if decide (V.int h0 = V.int 4) = true then h8 else h5) = m4
  have b2 : 0 ≤ m2 ∧ m2 ≤ 30 := by rw [← hm2]; exact bm2 _
  have b4 : 0 ≤ m4 ∧ m4 ≤ 60 := by rw [← hm4]; exact bm4 _
  refine ⟨szN (n := 3) (Nat.le_refl _), fun a6 ha6 => ?_⟩
  have s6 := Same.add (o := .lst [.int m2, .int h4, .int m4]) s5 ha6
  generalize hG6 : upd G5 a6 (.lst [.int m2, .int h4, .int m4]) = G6 at s6
  have ga6 : G6 a6 = some (.lst [.int m2, .int h4, .int m4]) := by rw [← hG6, upd_same]
  have t6 : Same G5 G6 := by rw [← hG6]; exact Same.new ha6
  refine ⟨a3, a6, _, _, rfl, rfl, t6 _ _ (t5 _ _ (t4 _ _ ga3)), ga6, szN (n := 5) (Nat.le_refl _), fun q2 hq2 => ?_⟩
  have s7 := Same.add (o := .lst ([.int m0, .int m1] ++ [.int m2, .int h4, .int m4])) s6 hq2
  generalize hG7 : upd G6 q2 (.lst ([.int m0, .int m1] ++ [.int m2, .int h4, .int m4])) = G7 at s7
  have g2 : G7 q2 = some (.lst (iV [m0, m1, m2, h4, m4])) := by rw [← hG7, upd_same]; rfl
  have e7 := e1.trans s7
  -- statics
  have s70 : Same G7 G7 := Same.refl G7
  refine ⟨_, rfl, _, rfl, _, _, rfl, rfl, p, ns, _, rfl, smL e7 hq, hn, by decide, by decide, fun c1 => ?_⟩
  refine ⟨c1, 24, rfl, by decide, by decide, fun w1 ws1 J1 en1 gw1 wl1 wv1 => ?_⟩
  refine ⟨_, rfl, q2, _, _, _, rfl, rfl, .of (en1 _ _ (s70 _ _ g2)), atT (j := 0) rfl (iV_get (i := 0) rfl), _, rfl, w1, iV ws1, rfl, .of gw1, fun q3 hq3 => ?_⟩
  rw [cut_iV b0.1]
  have s8 : Same G7 (upd J1 q3 (.lst (iV (ws1.take m0.toNat)))) := Same.add (s70.trans en1) hq3
  have tt1 : Same G7 (upd J1 q3 (.lst (iV (ws1.take m0.toNat)))) := (Same.add en1 hq3)
  generalize hG8 : upd J1 q3 (.lst (iV (ws1.take m0.toNat))) = G8 at s8 tt1
  have gq3 : G8 q3 = some (.lst (iV (ws1.take m0.toNat))) := by rw [← hG8, upd_same]
  have e8 := e7.trans s8
  refine ⟨_, rfl, _, rfl, _, _, rfl, rfl, p, ns, _, rfl, smL e8 hq, hn, by decide, by decide, fun c2 => ?_⟩
  refine ⟨c2, 30, rfl, by decide, by decide, fun w2 ws2 J2 en2 gw2 wl2 wv2 => ?_⟩
  refine ⟨_, rfl, q2, _, _, _, rfl, rfl, .of (en2 _ _ (s8 _ _ g2)), atT (j := 2) rfl (iV_get (i := 2) rfl), _, rfl, w2, iV ws2, rfl, .of gw2, fun q4 hq4 => ?_⟩
  rw [cut_iV b2.1]
  have s9 : Same G7 (upd J2 q4 (.lst (iV (ws2.take m2.toNat)))) := Same.add (s8.trans en2) hq4
  have tt2 : Same G8 (upd J2 q4 (.lst (iV (ws2.take m2.toNat)))) := (Same.add en2 hq4)
  generalize hG9 : upd J2 q4 (.lst (iV (ws2.take m2.toNat))) = G9 at s9 tt2
  have gq4 : G9 q4 = some (.lst (iV (ws2.take m2.toNat))) := by rw [← hG9, upd_same]
  have e9 := e7.trans s9
  have d4' : 0 ≤ h4 ∧ h4 ≤ 30 := by omega
  refine ⟨_, rfl, _, rfl, _, _, rfl, rfl, p, ns, _, rfl, smL e9 hq, hn, by decide, by decide, fun c3 => ?_⟩
  refine ⟨c3, 30, rfl, by decide, by decide, fun w3 ws3 J3 en3 gw3 wl3 wv3 => ?_⟩
  refine ⟨_, rfl, q2, _, _, _, rfl, rfl, .of (en3 _ _ (s9 _ _ g2)), atT (j := 3) rfl (iV_get (i := 3) rfl), _, rfl, w3, iV ws3, rfl, .of gw3, fun q5 hq5 => ?_⟩
  rw [cut_iV d4'.1]
  have s10 : Same G7 (upd J3 q5 (.lst (iV (ws3.take h4.toNat)))) := Same.add (s9.trans en3) hq5
  have tt3 : Same G9 (upd J3 q5 (.lst (iV (ws3.take h4.toNat)))) := (Same.add en3 hq5)
  generalize hG10 : upd J3 q5 (.lst (iV (ws3.take h4.toNat))) = G10 at s10 tt3
  have gq5 : G10 q5 = some (.lst (iV (ws3.take h4.toNat))) := by rw [← hG10, upd_same]
  have e10 := e7.trans s10
  have gq3' : G10 q3 = _ := tt3 _ _ (tt2 _ _ gq3)
  have gq4' : G10 q4 = _ := tt3 _ _ gq4
  -- frames
  refine ⟨szN (n := 1) (by decide), fun lf hlf => ?_⟩
  have s11 : Same G10 (upd G10 lf (.lst [])) := Same.new hlf
  refine ⟨_, rfl, q2, _, _, _, rfl, rfl, .of (s11 _ _ (s10 _ _ g2)), atT (j := 1) rfl (iV_get (i := 1) rfl), m1, rfl, by omega, by omega, ?_⟩
  refine for_it walk_range (Fri K G10 p q1 q2 q3 q4 q5 lf) ⟨s11, [], [], _, _, _, _, _, _, rfl, upd_same, .nil, rfl, fun _ h => (by cases h)⟩ (fun _ _ _ _ _ => trivial) ?_ ?_
  · rintro i x σ H2x H2 hi ⟨k0, us, fs, x8, x9, x10, x11, x12, x13, rfl, gl, pf, hl, fb⟩ ⟨rfl, rfl⟩
    have hi45 : i < 45 := by omega
    have kk := e10.trans k0
    refine ⟨_, rfl, _, rfl, _, _, rfl, rfl, _, rfl, _, rfl, _, _, rfl, rfl, (by show (0 : Int) < 8; decide), _, _, rfl, rfl, p, ns, _, rfl, smL kk hq, hn, by omega, by omega, fun c4 => ?_⟩
    refine ⟨szN (n := 5) (Nat.le_refl _), fun b1 hb1 => ⟨szN (n := 1) (Nat.le_refl _), fun b2 hb2 => ⟨b2, 15, _, rfl, rfl, upd_same, by decide, by decide, szN (n := 15) (Nat.le_refl _), fun b3 hb3 => ⟨b1, b3, _, _, rfl, rfl, (Same.add (Same.new hb2) hb3) _ _ upd_same, upd_same, szN (n := 20) (Nat.le_refl _), fun b4 hb4 => ?_⟩⟩⟩⟩
    refine ⟨c4, b4, frS, rfl, .of upd_same, by decide, by decide, fun r rs H3 e3 gr dg4 => ?_⟩
    have k3 : Same H2 H3 := (Same.add (Same.add (Same.add (Same.new hb1) hb2) hb3) hb4).trans e3
    obtain ⟨r0, j0, dr0⟩ := Paired.atR dg4 (i := 0) (y := 200) rfl
    obtain ⟨r1, j1, dr1⟩ := Paired.atR dg4 (i := 1) (y := 8) rfl
    obtain ⟨r2, j2, dr2⟩ := Paired.atR dg4 (i := 2) (y := 7) rfl
    refine ⟨_, rfl, _, rfl, _, _, rfl, rfl, _, rfl, _, rfl, _, _, rfl, rfl, (by show (0 : Int) < 8; decide), _, _, rfl, rfl, p, ns, _, rfl, smL (kk.trans k3) hq, hn, by omega, by omega, fun c5 => ⟨c5, 24, rfl, by decide, by decide, fun w ws H4 e4 gw wl wv => ?_⟩⟩
    have k4 : Same H2 H4 := k3.trans e4
    have gr4 := e4 _ _ gr
    have wl' : ws.length = 24 := by omega
    -- slots
    obtain ⟨n1, en1, hn1⟩ := at_iV (l := [0, 1, 2, 3, 4, 5, 6, 17]) (i := r1) dr1.1 (by show r1 < 8; exact dr1.2)
    have bn1 : 0 ≤ n1 ∧ n1 ≤ 17 := by
      simp only [List.mem_cons, List.not_mem_nil, or_false] at hn1
      omega
    refine ⟨_, rfl, szN (n := 8) (Nat.le_refl _), fun b5 hb5 => ⟨_, rfl, r, _, _, _, rfl, rfl, .of ((Same.new hb5) _ _ gr4), atT (j := 1) rfl (iV_get j1), b5, _, _, _, rfl, rfl, .of upd_same, en1, _, rfl, w, iV ws, rfl, .of ((Same.new hb5) _ _ gw), fun z hz => ?_⟩⟩
    rw [cut_iV bn1.1]
    have k5 := Same.add (o := .lst (iV (ws.take n1.toNat))) (Same.new hb5) hz
    generalize hJ5 : upd _ z (.lst (iV (ws.take n1.toNat))) = J5 at k5
    have gz : J5 z = some (.lst (iV (ws.take n1.toNat))) := by rw [← hJ5, upd_same]
    have gr5 := k5 _ _ gr4
    have gw5 := k5 _ _ gw
    -- stack
    obtain ⟨n2, en2, hn2⟩ := at_iV (l := [0, 1, 2, 3, 6, 12, 31]) (i := r2) dr2.1 (by show r2 < 7; exact dr2.2)
    have bn2 : 0 ≤ n2 ∧ n2 ≤ 31 := by
      simp only [List.mem_cons, List.not_mem_nil, or_false] at hn2
      omega
    refine ⟨_, rfl, _, rfl, w, w, _, _, rfl, rfl, gw5, gw5, by rw [iV_len]; exact szN (n := 48) (by omega), fun b6 hb6 => ⟨_, rfl, szN (n := 7) (Nat.le_refl _), fun b7 hb7 => ⟨_, rfl, r, _, _, _, rfl, rfl, .of ((Same.add (Same.new hb6) hb7) _ _ gr5), atT (j := 2) rfl (iV_get j2), b7, _, _, _, rfl, rfl, .of upd_same, en2, _, _, rfl, rfl, _, rfl, b6, _, rfl, .of ((Same.new hb7) _ _ upd_same), fun z2 hz2 => ?_⟩⟩⟩
    rw [cut_17 bn2.1 bn2.2 wl']
    generalize hst : ((ws ++ ws).drop 17).take n2.toNat = st
    have k6 := Same.add (o := .lst (iV st)) (Same.add (Same.new hb6) hb7) hz2
    generalize hJ6 : upd _ z2 (.lst (iV st)) = J6 at k6
    have gz2 : J6 z2 = some (.lst (iV st)) := by rw [← hJ6, upd_same]
    have k46 : Same H2 J6 := (k4.trans k5).trans k6
    -- the frame
    refine ⟨_, rfl, .inl ⟨rfl, _, .of (k46 _ _ gl)⟩, _, rfl, _, rfl, r, iV rs, rfl, .of (k6 _ _ gr5), fun u hu => ?_⟩
    have ec : cutV (iV rs) (some 3) none = iV (rs.drop 3) := cut_iV_from 3
    rw [ec]
    refine ⟨u, rs.drop 3, rfl, .of upd_same, Paired.drop 3 dg4, fun nm H9 hnm e9 => ?_⟩
    have k9 : Same J6 H9 := (Same.new hu).trans e9
    refine ⟨_, rfl, r, _, _, _, rfl, rfl, .of (k9 _ _ (k6 _ _ gr5)), atT (j := 0) rfl (iV_get j0), _, rfl, _, _, rfl, rfl, ⟨by decide, by decide⟩, _, _, rfl, rfl, _, rfl, _, _, rfl, rfl, (by show (0 : Int) < 200; decide), ?_⟩
    refine ⟨_, rfl, z, _, rfl, .inl ⟨.of (k9 _ _ (k6 _ _ gz)), fun t1 ht1 => ⟨_, rfl, z2, _, rfl, .inl ⟨.of ((Same.new ht1) _ _ (k9 _ _ gz2)), fun t2 ht2 => ⟨szN (n := 4) (Nat.le_refl _), fun t3 ht3 => ?_⟩⟩⟩⟩⟩
    have gt1 := Same.new (o := .tup (iV (ws.take n1.toNat))) ht1
    have gt2 := Same.new (o := .tup (iV st)) ht2
    have gt3 := Same.new (o := .tup [.str (S nm), .int ((r0 + (0 + (i : Nat)) / 8) % 200), .ref t1, .ref t2]) ht3
    have k10 := ((k46.trans k9).trans gt1).trans (gt2.trans gt3)
    have glz := k10 _ _ gl
    refine ⟨lf, us, _, rfl, rfl, glz, by rw [hl]; exact szL (n := 100) (by omega), ?_⟩
    generalize hJ7 : upd _ t3 (.tup [.str (S nm), .int ((r0 + (0 + ((i : Nat) : Int)) / 8) % 200), .ref t1, .ref t2]) = J7 at k10 glz gt3
    have g3 : J7 t3 = some (.tup [.str (S nm), .int ((r0 + (0 + ((i : Nat) : Int)) / 8) % 200), .ref t1, .ref t2]) := by rw [← hJ7, upd_same]
    have tz : Tm J7 (upd J7 lf (.lst (us ++ [.ref t3]))) := Tm.set (Tm.refl _) glz
    have tm : Tm H2 (upd J7 lf (.lst (us ++ [.ref t3]))) := (Tm.of k10).trans tz
    refine ⟨Same.mut (k0.trans k10) hlf, us ++ [.ref t3], fs ++ [⟨nm, (r0 + (0 + ((i : Nat) : Int)) / 8) % 200, ws.take n1.toNat, st⟩], _, _, _, _, _, _, rfl, upd_same, ?_, ?_, ?_⟩
    · refine Paired.app (Paired.mapP pf fun _ _ z => FT.mono tm z) (.cons ⟨t3, _, _, rfl, tmT tz (.of g3), ⟨t1, rfl, tmT tz (.of (gt3 _ _ (gt2 _ _ upd_same)))⟩, ⟨t2, rfl, tmT tz (.of (gt3 _ _ upd_same))⟩⟩ .nil)
    · rw [List.length_append, hl]
      rfl
    · intro f hf
      rcases List.mem_append.mp hf with hf | hf
      · exact fb f hf
      · rw [List.mem_singleton.mp hf]
        refine ⟨⟨hnm, by show 0 ≤ _ % 200; omega, by show _ % 200 ≤ 199; omega, fun v hv => wv v (List.mem_of_mem_take hv), fun v hv => ?_⟩, ?_, ?_⟩
        · have hv' : v ∈ st := hv
          rw [← hst] at hv'
          rcases List.mem_append.mp (List.mem_of_mem_drop (List.mem_of_mem_take hv')) with z | z
          · exact wv v z
          · exact wv v z
        · show (ws.take n1.toNat).length ≤ 24
          rw [List.length_take]
          omega
        · show st.length ≤ 31
          rw [← hst, List.length_take]
          omega
  · rintro σ H2 ⟨k0, us, fs, x8, x9, x10, x11, x12, x13, rfl, gl, pf, hl, fb⟩
    have kH := e10.trans k0
    have s12 := (s10.trans k0)
    have fl : us.length ≤ 45 := by omega
    refine ⟨szN (n := 1) (by decide), fun lo hlo => ?_⟩
    have s13 : Same H2 (upd H2 lo (.lst [])) := Same.new hlo
    refine ⟨_, rfl, q2, _, _, _, rfl, rfl, .of (s13 _ _ (s12 _ _ g2)), atT (j := 4) rfl (iV_get (i := 4) rfl), m4, rfl, by omega, by omega, ?_⟩
    refine for_it walk_range (Obi K H2 p q1 q2 q3 q4 q5 lf lo) ⟨s13, [], [], _, _, _, _, _, rfl, upd_same, .nil, rfl, fun _ h => (by cases h), Nat.zero_le _⟩ (fun _ _ _ _ _ => trivial) ?_ ?_
    · rintro i x σ H3x H3 hi ⟨k1, uo, os, x8, x10, x11, x12, x13, rfl, go, po, hlo', vo, so⟩ ⟨rfl, rfl⟩
      have hi60 : i < 60 := by omega
      have kk := kH.trans k1
      refine ⟨_, rfl, _, rfl, _, _, rfl, rfl, _, rfl, _, rfl, _, _, rfl, rfl, (by show (0 : Int) < 10; decide), _, _, rfl, rfl, p, ns, _, rfl, smL kk hq, hn, by omega, by omega, fun c4 => ?_⟩
      refine ⟨szN (n := 3) (Nat.le_refl _), fun b1 hb1 => ⟨szN (n := 1) (Nat.le_refl _), fun b2 hb2 => ⟨b2, 15, _, rfl, rfl, upd_same, by decide, by decide, szN (n := 15) (Nat.le_refl _), fun b3 hb3 => ⟨b1, b3, _, _, rfl, rfl, (Same.add (Same.new hb2) hb3) _ _ upd_same, upd_same, szN (n := 18) (Nat.le_refl _), fun b4 hb4 => ?_⟩⟩⟩⟩
      refine ⟨c4, b4, obS, rfl, .of upd_same, by decide, by decide, fun r rs H4 e3 gr dg4 => ?_⟩
      have k3 : Same H3 H4 := (Same.add (Same.add (Same.add (Same.new hb1) hb2) hb3) hb4).trans e3
      obtain ⟨r0, j0, dr0⟩ := Paired.atR dg4 (i := 0) (y := 9) rfl
      refine ⟨_, rfl, _, rfl, _, _, rfl, rfl, _, rfl, _, rfl, _, _, rfl, rfl, (by show (0 : Int) < 10; decide), _, _, rfl, rfl, p, ns, _, rfl, smL (kk.trans k3) hq, hn, by omega, by omega, fun c5 => ⟨c5, 30, rfl, by decide, by decide, fun w ws H5 e4 gw wl wv => ?_⟩⟩
      have k4 : Same H3 H5 := k3.trans e4
      have gr4 := e4 _ _ gr
      obtain ⟨n1, en1, hn1⟩ := at_iV (l := [0, 1, 2, 3, 4, 8, 12, 2, 30]) (i := r0) dr0.1 (by show r0 < 9; exact dr0.2)
      have bn1 : 0 ≤ n1 ∧ n1 ≤ 30 := by
        simp only [List.mem_cons, List.not_mem_nil, or_false] at hn1
        omega
      refine ⟨szN (n := 9) (Nat.le_refl _), fun b5 hb5 => ⟨_, rfl, r, _, _, _, rfl, rfl, .of ((Same.new hb5) _ _ gr4), atT (j := 0) rfl (iV_get j0), b5, _, _, _, rfl, rfl, .of upd_same, en1, _, rfl, w, iV ws, rfl, .of ((Same.new hb5) _ _ gw), fun z hz => ?_⟩⟩
      rw [cut_iV bn1.1]
      have k5 := Same.add (o := .lst (iV (ws.take n1.toNat))) (Same.new hb5) hz
      generalize hJ5 : upd _ z (.lst (iV (ws.take n1.toNat))) = J5 at k5
      have gz : J5 z = some (.lst (iV (ws.take n1.toNat))) := by rw [← hJ5, upd_same]
      have k45 := k4.trans k5
      have fin : ∀ (C0 B0 : L2.St → Hp → Prop) (y : Addr) (pw : List Int) (J : Hp), Same J5 J → J y = some (.lst (iV pw)) → (∀ v ∈ pw, VW v) → (pw.length ≤ 30 ∨ (i = 0 ∧ pw.length ≤ 1002)) → (tDrop (tBM K "list" rAppend (tVar 9) (tCons (tTup (tCons (tCall (sp__law_name A K) [] E0 (tCons (tSl (rSlL K) (tVar 10) (tPart (tC (.int 1))) tNoPart) tNil)) (tCons (tCB (rTupOf K) (tCons (tVar 11) tNil)) tNil))) tNil)))
          { nx := Obi K H2 p q1 q2 q3 q4 q5 lf lo (i + 1), ct := C0, bk := B0, rt := Q } [some (.ref p), some (.int 0), some (.ref q1), some (.ref q2), some (.ref q3), some (.ref q4), some (.ref q5), some (.ref lf), some (.int (0 + (i : Nat))), some (.ref lo), some (.ref r), some (.ref y), x12, x13] J := fun C0 B0 y pw J kJ gy pv pl => by
        have kJ' := k45.trans kJ
        refine ⟨_, rfl, .inl ⟨rfl, _, .of (kJ' _ _ go)⟩, _, rfl, _, rfl, r, iV rs, rfl, .of (kJ _ _ (k5 _ _ gr4)), fun u hu => ?_⟩
        have ec : cutV (iV rs) (some 1) none = iV (rs.drop 1) := cut_iV_from 1
        rw [ec]
        refine ⟨u, rs.drop 1, rfl, .of upd_same, Paired.drop 1 dg4, fun nm H9 hnm e9 => ?_⟩
        have k9 : Same J H9 := (Same.new hu).trans e9
        refine ⟨_, rfl, y, _, rfl, .inl ⟨.of (k9 _ _ gy), fun t1 ht1 => ⟨szN (n := 2) (Nat.le_refl _), fun t3 ht3 => ?_⟩⟩⟩
        have gt1 := Same.new (o := .tup (iV pw)) ht1
        have gt3 := Same.new (o := .tup [.str (S nm), .ref t1]) ht3
        have k10 := ((kJ'.trans k9).trans gt1).trans gt3
        have glz := k10 _ _ go
        refine ⟨lo, uo, _, rfl, rfl, glz, by rw [hlo']; exact szL (n := 100) (by omega), ?_⟩
        generalize hJ7 : upd _ t3 (.tup [.str (S nm), .ref t1]) = J7 at k10 glz gt3
        have g3 : J7 t3 = some (.tup [.str (S nm), .ref t1]) := by rw [← hJ7, upd_same]
        have tz : Tm J7 (upd J7 lo (.lst (uo ++ [.ref t3]))) := Tm.set (Tm.refl _) glz
        have tm : Tm H3 (upd J7 lo (.lst (uo ++ [.ref t3]))) := (Tm.of k10).trans tz
        refine ⟨Same.mut (k1.trans k10) hlo, uo ++ [.ref t3], os ++ [⟨nm, pw⟩], _, _, _, _, _, rfl, upd_same, ?_, ?_, ?_, ?_⟩
        · exact Paired.app (Paired.mapP po fun _ _ z => OT.mono tm z) (.cons ⟨t3, _, rfl, tmT tz (.of g3), ⟨t1, rfl, tmT tz (.of (gt3 _ _ upd_same))⟩⟩ .nil)
        · rw [List.length_append, hlo']
          rfl
        · intro f hf
          rcases List.mem_append.mp hf with hf | hf
          · exact vo f hf
          · rw [List.mem_singleton.mp hf]
            exact ⟨hnm, pv⟩
        · rw [List.map_append, List.sum_append]
          show _ + (pw.length + 0) ≤ _
          rcases pl with pl | ⟨rfl, pl⟩
          · omega
          · have hos : os = [] := by
              have := Paired.len po
              rw [hlo'] at this
              exact List.eq_nil_of_length_eq_zero this.symm
            rw [hos]
            show 0 + (pw.length + 0) ≤ _
            omega
      have wv5 : ∀ v ∈ ws.take n1.toNat, VW v := fun v hv => wv v (List.mem_of_mem_take hv)
      have wl5 : (ws.take n1.toNat).length ≤ 30 := by
        rw [List.length_take]
        omega
      have no := fun C0 B0 => fin C0 B0 z (ws.take n1.toNat) J5 (Same.refl _) gz wv5 (.inl wl5)
      refine ⟨_, rfl, rfl, _, rfl, ?_⟩
      rw [dI]
      refine itD (fun hk => ?_) (fun _ => no _ _)
      have hk0 : i = 0 := by omega
      refine ⟨_, rfl, q1, _, _, _, rfl, rfl, .of ((((s7.trans s12).trans k1).trans k45) _ _ g1), atT (j := 0) rfl (iV_get i0), rfl, _, rfl, ?_⟩
      rw [dI]
      refine itD (fun h5 => ?_) (fun _ => no _ _)
      refine ⟨_, rfl, z, 1002, _, rfl, rfl, gz, by decide, by decide, by rw [iV_len]; exact szN (n := 40000) (by show _ * 1002 ≤ _; omega), fun y1 hy1 => ⟨_, rfl, y1, _, rfl, .of upd_same, fun y2 hy2 => ?_⟩⟩
      have e1002 : (1002 : Int).toNat = 1002 := rfl
      rw [e1002, iV_flat] at hy2 ⊢
      rw [cut_iV (by decide)]
      refine fin _ _ y2 _ _ (Same.add (Same.new hy1) hy2) upd_same (fun v hv => ?_) (.inr ⟨hk0, ?_⟩)
      · obtain ⟨l, hl, hm⟩ := List.mem_flatten.mp (List.mem_of_mem_take hv)
        rw [List.eq_of_mem_replicate hl] at hm
        exact wv5 v hm
      · rw [List.length_take]
        show min 1002 _ ≤ _
        omega
    · rintro σ H3 ⟨k1, uo, os, x8, x10, x11, x12, x13, rfl, go, po, hlo', vo, so⟩
      have kk := kH.trans k1
      have kq := s12.trans k1
      have kb := k0.trans k1
      have c3 : H3 q3 = some (.lst (iV (ws1.take m0.toNat))) := kb _ _ (tt3 _ _ (tt2 _ _ gq3))
      have c4 : H3 q4 = some (.lst (iV (ws2.take m2.toNat))) := kb _ _ (tt3 _ _ gq4)
      have c5 : H3 q5 = some (.lst (iV (ws3.take h4.toNat))) := kb _ _ gq5
      have cf : H3 lf = some (.lst us) := k1 _ _ gl
      have pf3 : Paired (FT K H3) us fs := Paired.mapP pf fun _ _ z => FT.mono (Tm.of k1) z
      refine ⟨_, rfl, q3, _, rfl, .inl ⟨.of c3, fun t1 u1 => ⟨_, rfl, lf, _, rfl, .inl ⟨.of ((Same.new u1) _ _ cf), fun t2 u2 => ⟨_, rfl, q4, _, rfl, .inl ⟨.of ((Same.add (Same.new u1) u2) _ _ c4), fun t3 u3 => ⟨_, rfl, q5, _, rfl, .inl ⟨.of ((Same.add (Same.add (Same.new u1) u2) u3) _ _ c5), fun t4 u4 => ⟨_, rfl, lo, _, rfl, .inl ⟨.of ((Same.add (Same.add (Same.add (Same.new u1) u2) u3) u4) _ _ go), fun t5 u5 => ⟨szN (n := 5) (Nat.le_refl _), fun t6 u6 => ?_⟩⟩⟩⟩⟩⟩⟩⟩⟩⟩⟩
      have v1 := Same.new (o := .tup (iV (ws1.take m0.toNat))) u1
      have v2 := Same.new (o := .tup us) u2
      have v3 := Same.new (o := .tup (iV (ws2.take m2.toNat))) u3
      have v4 := Same.new (o := .tup (iV (ws3.take h4.toNat))) u4
      have v5 := Same.new (o := .tup uo) u5
      have v6 := Same.new (o := .tup [.ref t1, .ref t2, .ref t3, .ref t4, .ref t5]) u6
      have vall := ((v1.trans v2).trans v3).trans ((v4.trans v5).trans v6)
      have fsl : fs.length ≤ 100 := by
        have := Paired.len pf
        omega
      have osl : os.length ≤ 100 := by
        have := Paired.len po
        omega
      have hv : Valid ⟨ws1.take m0.toNat, fs, ws2.take m2.toNat, ws3.take h4.toNat, os⟩ :=
        ⟨fun v hv => wv1 v (List.mem_of_mem_take hv), fun f hf => (fb f hf).1, fun v hv => wv2 v (List.mem_of_mem_take hv), fun v hv => wv3 v (List.mem_of_mem_take hv), vo⟩
      refine q (.ref t6) ⟨ws1.take m0.toNat, fs, ws2.take m2.toNat, ws3.take h4.toNat, os⟩ _ (kk.trans vall) ⟨t6, .ref t1, .ref t2, .ref t3, .ref t4, .ref t5, rfl, .of upd_same, ?_, ?_, ?_, ?_, ?_⟩ hv (render_le hv ?_ fsl fb ?_ ?_ osl ?_)
      · exact ⟨t1, rfl, .of (v6 _ _ (v5 _ _ (v4 _ _ (v3 _ _ (v2 _ _ upd_same)))))⟩
      · exact ⟨t2, us, rfl, .of (v6 _ _ (v5 _ _ (v4 _ _ (v3 _ _ upd_same)))), Paired.mapP pf3 fun _ _ z => FT.mono (Tm.of vall) z⟩
      · exact ⟨t3, rfl, .of (v6 _ _ (v5 _ _ (v4 _ _ upd_same)))⟩
      · exact ⟨t4, rfl, .of (v6 _ _ (v5 _ _ upd_same))⟩
      · exact ⟨t5, uo, rfl, .of (v6 _ _ upd_same), Paired.mapP po fun _ _ z => OT.mono (Tm.of vall) z⟩
      · show (ws1.take m0.toNat).length ≤ 24
        rw [List.length_take]
        omega
      · show (ws2.take m2.toNat).length ≤ 30
        rw [List.length_take]
        omega
      · show (ws3.take h4.toNat).length ≤ 30
        rw [List.length_take]
        omega
      · show (os.map fun o => o.pay.length).sum ≤ 5000
        have : m4.toNat ≤ 60 := by omega
        omega
end
end Qb

/-! Kq3 -/
set_option Elab.async false
set_option linter.all false
set_option maxRecDepth 100000
set_option maxHeartbeats 2000000
/-! Reading: a text is edited at a place. -/
namespace Qb
open PySem PySem.Spec PyProof.Rows L2
theorem msum_nil : msum [] = 0 := rfl
theorem msum_cons (l : T) (r : List T) : msum (l :: r) = l.length + 1 + msum r := rfl
theorem msum_append (a b : List T) : msum (a ++ b) = msum a + msum b := by
  unfold msum
  rw [List.map_append, List.sum_append]
theorem msum_eq (ts : List T) : msum ts = (ts.map List.length).sum + ts.length := by
  induction ts with
  | nil => rfl
  | cons l r ih =>
    rw [msum_cons, ih, List.map_cons, List.sum_cons, List.length_cons]
    omega
theorem msum_split (ls : List T) (n : Nat) : msum (ls.take n) + msum (ls.drop n) = msum ls := by
  rw [← msum_append, List.take_append_drop]
theorem msum_drop (ls : List T) (n : Nat) : msum (ls.drop (n + 1)) ≤ msum (ls.drop n) := by
  have e : ls.drop (n + 1) = (ls.drop n).drop 1 := by rw [List.drop_drop]
  rw [e]
  have := msum_split (ls.drop n) 1
  omega
theorem msum_at {ls : List T} {n : Nat} {l : T} (h : ls[n]? = some l) : msum (ls.take n) + (l.length + 1) + msum (ls.drop (n + 1)) = msum ls := by
  have hn : n < ls.length := (List.getElem?_eq_some_iff.mp h).1
  have e : ls.drop n = l :: ls.drop (n + 1) := by
    rw [List.drop_eq_getElem_cons hn]
    rw [List.getElem?_eq_getElem hn] at h
    rw [Option.some.inj h]
  have := msum_split ls n
  rw [e, msum_cons] at this
  omega
theorem msum_mem {ls : List T} {l : T} (h : l ∈ ls) : l.length + 1 ≤ msum ls := by
  obtain ⟨n, hn⟩ := List.getElem?_of_mem h
  have := msum_at hn
  omega
theorem msum_len (ls : List T) : ls.length ≤ msum ls := by
  rw [msum_eq]
  omega
theorem msum_set {ls : List T} {n : Nat} {x : T} : msum (ls.set n x) ≤ msum ls + x.length := by
  by_cases hn : n < ls.length
  · have h1 : (ls.set n x)[n]? = some x := by rw [List.getElem?_set_self hn]
    have h2 := msum_at h1
    have h3 := msum_at (List.getElem?_eq_getElem hn)
    have e1 : (ls.set n x).take n = ls.take n := by
      rw [List.take_set_of_le (Nat.le_refl n)]
    have e2 : (ls.set n x).drop (n + 1) = ls.drop (n + 1) := by
      rw [List.drop_set_of_lt (Nat.lt_succ_self n)]
    rw [e1, e2] at h2
    omega
  · rw [List.set_eq_of_length_le (by omega)]
    omega
theorem joinL_msum {c : Nat} : ∀ {ps : List T}, ps ≠ [] → (TL.joinL [c] ps).length + 1 = msum ps
  | [], h => absurd rfl h
  | [p], _ => by
    show p.length + 1 = p.length + 1 + 0
    omega
  | p :: q :: r, _ => by
    have ih := joinL_msum (c := c) (ps := q :: r) (by simp)
    rw [joinL_cons (by simp), List.length_append, List.length_append, msum_cons]
    show p.length + (1 + _) + 1 = _
    omega
theorem cut_msum (c : Nat) (t : T) : msum (cut c t) = t.length + 1 := by
  rw [← joinL_msum (c := c) (cut_ne c t), join_cut]
theorem cut_sV {ls : List T} {n : Int} (h : 0 ≤ n) : cutV (sV ls) none (some n) = sV (ls.take n.toNat) := by
  obtain ⟨j, rfl⟩ := Int.eq_ofNat_of_zero_le h
  rw [cutV_to]
  unfold sV
  rw [List.map_take]
  rfl
theorem cut_sV_from {ls : List T} {n : Int} (h : 0 ≤ n) : cutV (sV ls) (some n) none = sV (ls.drop n.toNat) := by
  obtain ⟨j, rfl⟩ := Int.eq_ofNat_of_zero_le h
  rw [cutV_from]
  unfold sV
  rw [List.map_drop]
  rfl
def txB (n : Nat) : List V → Bool
  | [] => true
  | .str x :: r => decide (x.length ≤ n) && txB n r
  | _ :: _ => false
theorem tx_of {n : Nat} : ∀ {xs : List V}, txB n xs = true → ∃ ts, xs = sV ts ∧ ∀ t ∈ ts, t.length ≤ n
  | [], _ => ⟨[], rfl, fun _ h => by cases h⟩
  | .str x :: r, h => by
    obtain ⟨h1, h2⟩ := Bool.and_eq_true_iff.mp h
    obtain ⟨ts, rfl, ht⟩ := tx_of h2
    have h3 := of_decide_eq_true h1
    refine ⟨TL.tl x :: ts, ?_, fun t hm => ?_⟩
    · show _ = V.str (S (TL.tl x)) :: sV ts
      rw [S_tl]
    · rcases List.mem_cons.mp hm with z | z
      · rw [z, ← TL.len_tl]
        exact h3
      · exact ht t z
theorem at_tx {n : Nat} {xs : List V} {i : Int} (h : txB n xs = true) (h0 : 0 ≤ i) (h1 : i < xs.length) : ∃ t, atI xs i = some (.str (S t)) ∧ t.length ≤ n := by
  obtain ⟨ts, rfl, ht⟩ := tx_of h
  obtain ⟨t, e, hm⟩ := at_sV h0 (by rw [sV_len] at h1; exact h1)
  exact ⟨t, e, ht t hm⟩
theorem first_hit (x : V) : ∀ (ys : List V) (n : Nat) (z : V), ys[n]? = some z → eqV z x = true → ∃ j z, j ≤ n ∧ ys[j]? = some z ∧ eqV z x = true ∧ ∀ (m : Nat) (z' : V), m < j → ys[m]? = some z' → eqV z' x = false
  | [], n, z, h, _ => by simp at h
  | y :: r, n, z, h, he => by
    cases hy : eqV y x with
    | true => exact ⟨0, y, Nat.zero_le _, rfl, hy, fun m z' hm => absurd hm (Nat.not_lt_zero m)⟩
    | false =>
      cases n with
      | zero =>
        have h' : y = z := Option.some.inj h
        rw [h', he] at hy
        cases hy
      | succ n =>
        obtain ⟨j, z2, h1, h2, h3, h4⟩ := first_hit x r n z (by simpa using h) he
        refine ⟨j + 1, z2, by omega, by simpa using h2, h3, fun m z' hm hz => ?_⟩
        cases m with
        | zero =>
          have h' : y = z' := Option.some.inj hz
          rw [← h']
          exact hy
        | succ m => exact h4 m z' (by omega) (by simpa using hz)
theorem txB_append (n : Nat) : ∀ (a b : List V), txB n (a ++ b) = (txB n a && txB n b)
  | [], _ => rfl
  | .str x :: r, b => by
    show (decide (x.length ≤ n) && txB n (r ++ b)) = ((decide (x.length ≤ n) && txB n r) && txB n b)
    rw [txB_append n r b, Bool.and_assoc]
  | .non :: _, _ => rfl
  | .bl _ :: _, _ => rfl
  | .int _ :: _, _ => rfl
  | .flt _ :: _, _ => rfl
  | .byt _ :: _, _ => rfl
  | .ref _ :: _, _ => rfl
  | .ty _ :: _, _ => rfl
/-! the ends of the def -/
def aS13 (K : Frag) : TS :=
  (tRet (tOp rCat (tSl (rSlL K) (tVar 0) tNoPart (tPart (tOp rModP (tCB rIntI (tCons (tVar 2) tNil)) (tCB (rLenQ K) (tCons (tVar 0) tNil))))) (tLst (tCons (tC (.str "")) tNil))))
def aS14 (K : Frag) : TS :=
  (tSeq (tAsg (tOp rAddS (tOp rAddS (tOp rAddS (tC (.str "frame ")) (tOp (rIxL K) (tVar 5) (tOp rModP (tCB rIntI (tCons (tVar 2) tNil)) (tC (.int 32))))) (tC (.str " "))) (tOp (rIxL K) (tVar 6) (tOp rModP (tCB rIntI (tCons (tVar 3) tNil)) (tC (.int 32))))) (gName 13)) (tRet (tOp rCat (tOp rCat (tSl (rSlL K) (tVar 0) tNoPart (tPart (tVar 11))) (tLst (tCons (tVar 13) (tCons (tC (.str "slots")) (tCons (tC (.str "stack")) tNil))))) (tSl (rSlL K) (tVar 0) (tPart (tVar 11)) tNoPart))))
def aS15 (K : Frag) : TS :=
  (tRet (tOp rCat (tOp rCat (tSl (rSlL K) (tVar 0) tNoPart (tPart (tOp rMinus (tCB (rLenQ K) (tCons (tVar 0) tNil)) (tC (.int 1))))) (tLst (tCons (tOp rAddS (tOp rAddS (tC (.str "object ")) (tOp (rIxL K) (tVar 5) (tOp rModP (tCB rIntI (tCons (tVar 2) tNil)) (tC (.int 16))))) (tOp (rIxL K) (tLst (tCons (tC (.str "")) (tCons (tC (.str " 7")) tNil))) (tOp rModP (tCB rIntI (tCons (tVar 3) tNil)) (tC (.int 2))))) tNil))) (tSl (rSlL K) (tVar 0) (tPart (tOp rMinus (tCB (rLenQ K) (tCons (tVar 0) tNil)) (tC (.int 1)))) tNoPart)))
def aS16 (K : Frag) : TS :=
  (tSeq (tAsg (tOp (rIxL K) (tVar 10) (tOp rModP (tCB rIntI (tCons (tVar 2) tNil)) (tCB (rLenQ K) (tCons (tVar 10) tNil)))) (gName 12)) (tSeq (tAsg (tOp (rIxL K) (tLst (tCons (tOp (rIxL K) (tVar 0) (tVar 12)) (tCons (tC (.str "static")) tNil))) (tCB rIntB (tCons (tOp rEq (tOp (rIxL K) (tVar 9) (tVar 12)) (tC (.str "static"))) tNil))) (gName 14)) (tRet (tOp rCat (tOp rCat (tSl (rSlL K) (tVar 0) tNoPart (tPart (tVar 12))) (tLst (tCons (tOp rAddS (tOp rAddS (tVar 14) (tC (.str " "))) (tOp (rIxL K) (tVar 7) (tOp rModP (tCB rIntI (tCons (tVar 3) tNil)) (tCB (rLenQ K) (tCons (tVar 7) tNil))))) tNil))) (tSl (rSlL K) (tVar 0) (tPart (tOp rPlus (tVar 12) (tC (.int 1)))) tNoPart)))))
def aSL (K : Frag) : TS :=
  (tSeq (tAsg (tOp rModP (tCB rIntI (tCons (tVar 2) tNil)) (tCB (rLenQ K) (tCons (tVar 0) tNil))) (gName 12)) (tRet (tOp rCat (tOp rCat (tSl (rSlL K) (tVar 0) tNoPart (tPart (tVar 12))) (tLst (tCons (tOp (rIxL K) (tVar 8) (tOp rModP (tCB rIntI (tCons (tVar 3) tNil)) (tCB (rLenQ K) (tCons (tVar 8) tNil)))) tNil))) (tSl (rSlL K) (tVar 0) (tPart (tOp rPlus (tVar 12) (tOp rModP (tCB rIntI (tCons (tVar 4) tNil)) (tC (.int 2))))) tNoPart))))
def aT (K : Frag) : TS :=
  (tSeq (tIfS (tTest (tOp rEq (tVar 1) (tC (.int 13)))) (aS13 K) tNext) (tSeq (tIfS (tTest (tOp rEq (tVar 1) (tC (.int 14)))) (aS14 K) tNext) (tSeq (tIfS (tTest (tOp rEq (tVar 1) (tC (.int 15)))) (aS15 K) tNext) (tSeq (tIfS (tAnd (tTest (tOp rEq (tVar 1) (tC (.int 16)))) (tTest (tOp rGt' (tCB (rLenQ K) (tCons (tVar 10) tNil)) (tC (.int 0))))) (aS16 K) tNext) (aSL K)))))
/-- where the lists stand once they are built -/
structure Aim (K : Frag) (H G : Hp) (p : Addr) (ls : List T) (nN nP nE nO nF nS : Addr) (fs : List T) (ks : List Int) : Prop where
  kH : Same H G
  gl : G p = some (.lst (sV ls))
  gN : ∃ xs, G nN = some (.lst xs) ∧ xs.length = 32 ∧ txB 20 xs = true
  gP : ∃ xs, G nP = some (.lst xs) ∧ xs.length = 32 ∧ txB 20 xs = true
  gE : ∃ xs, G nE = some (.lst xs) ∧ xs.length = 24 ∧ txB 20 xs = true
  gO : ∃ xs, G nO = some (.lst xs) ∧ xs.length = 11 ∧ txB 20 xs = true
  gF : G nF = some (.lst (sV fs))
  fl : fs.length = ls.length
  gK : G nS = some (.lst (iV ks))
  bk : ∀ k ∈ ks, 0 ≤ k ∧ k < ls.length
  lp : 0 < ls.length
  ms : msum ls ≤ 500000
abbrev sA (p : Addr) (d a b c : Int) (nN nP nE nO nF nS : Addr) (j : Nat) : L2.St := [some (.ref p), some (.int d), some (.int a), some (.int b), some (.int c), some (.ref nN), some (.ref nP), some (.ref nE), some (.ref nO), some (.ref nF), some (.ref nS), some (.int (j : Nat)), none, none, none, none]
/-- what is promised of the list that is given back -/
def AimQ (H : Hp) (ls : List T) (Q : VK) : Prop := ∀ q ls' H', Same H H' → H' q = some (.lst (sV ls')) → msum ls' ≤ msum ls + 1000 → Q (.ref q) H'
section
variable {A : Ad} {K : Frag} {w : World} {mg : Str → Option Value} {vs : List V} {H G : Hp} {Q : VK} {E : XK} {D : Ends} {p : Addr} {ls fs : List T} {nN nP nE nO nF nS : Addr} {ks : List Int} {d a b c : Int} {j : Nat}
theorem Aim.mlen (I : Aim K H G p ls nN nP nE nO nF nS fs ks) (n : Int) : 0 ≤ n % (((sV ls).length : Nat) : Int) ∧ n % (((sV ls).length : Nat) : Int) < ls.length := by
  have := I.lp
  rw [sV_len]
  exact ⟨Int.emod_nonneg _ (by omega), Int.emod_lt_of_pos _ (by omega)⟩
theorem Aim.tk (I : Aim K H G p ls nN nP nE nO nF nS fs ks) (n : Nat) : (ls.take n).length ≤ 500000 := by
  have := msum_len ls
  have := I.ms
  rw [List.length_take]
  omega
theorem Aim.dr (I : Aim K H G p ls nN nP nE nO nF nS fs ks) (n : Nat) : (ls.drop n).length ≤ 500000 := by
  have := msum_len ls
  have := I.ms
  rw [List.length_drop]
  omega
theorem len3 {X Y : List T} {xs : List V} (hX : X.length ≤ 500000) (hY : Y.length ≤ 500000) (hx : xs.length ≤ 10) : (sV X ++ xs).length + (sV Y).length ≤ sizeLine := by
  rw [List.length_append, sV_len, sV_len]
  exact szN (n := 1000010) (by omega)
theorem e32 : (" " : Str) = S [32] := lit _
theorem aim13 (I : Aim K H G p ls nN nP nE nO nF nS fs ks) (q : AimQ H ls D.rt) : aS13 K D (sA p d a b c nN nP nE nO nF nS j) G := by
  have mlen' := I.mlen
  have tk := I.tk
  have dr := I.dr
  obtain ⟨kH, gl, ⟨xsN, gN, lN, tN⟩, ⟨xsP, gP, lP, tP⟩, ⟨xsE, gE, lE, tE⟩, ⟨xsO, gO, lO, tO⟩, gF, hfl, gK, bk, hlp, hms⟩ := I
  have hlp' : (0 : Int) < ((sV ls).length : Int) := by rw [sV_len]; omega
  refine ⟨_, rfl, _, rfl, _, rfl, _, rfl, p, _, rfl, .inl (.of gl), _, _, rfl, rfl, hlp', _, rfl, p, _, rfl, .of gl, fun y1 v1 => ?_⟩
  have bm := mlen' a
  generalize hm : a % (((sV ls).length : Nat) : Int) = m at bm
  rw [cut_sV bm.1]
  refine ⟨szN (n := 1) (Nat.le_refl _), fun y2 v2 => ⟨y1, y2, _, _, rfl, rfl, (Same.new v2) _ _ upd_same, upd_same, ?_, fun y3 v3 => ?_⟩⟩
  · rw [sV_len]
    exact szN (n := 500001) (by have := tk m.toNat; show _ + 1 ≤ _; omega)
  · refine q y3 (ls.take m.toNat ++ [[]]) _ (Same.add (Same.add (Same.add kH v1) v2) v3) ?_ ?_
    · rw [upd_same, ← sV_app]
      have e0 : ("" : Str) = S [] := lit _
      rw [e0]
      rfl
    · have := msum_split ls m.toNat
      rw [msum_append]
      show _ + (0 + 1 + 0) ≤ _
      omega
theorem aim14 (I : Aim K H G p ls nN nP nE nO nF nS fs ks) (q : AimQ H ls D.rt) : aS14 K D (sA p d a b c nN nP nE nO nF nS j) G := by
  have mlen' := I.mlen
  have tk := I.tk
  have dr := I.dr
  obtain ⟨kH, gl, ⟨xsN, gN, lN, tN⟩, ⟨xsP, gP, lP, tP⟩, ⟨xsE, gE, lE, tE⟩, ⟨xsO, gO, lO, tO⟩, gF, hfl, gK, bk, hlp, hms⟩ := I
  have hlp' : (0 : Int) < ((sV ls).length : Int) := by rw [sV_len]; omega
  obtain ⟨tn, eN, bN⟩ := at_tx tN (i := a % 32) (by omega) (by rw [lN]; omega)
  obtain ⟨tp, eP, bP⟩ := at_tx tP (i := b % 32) (by omega) (by rw [lP]; omega)
  have c6 : (cs "frame ").length = 6 := by decide
  refine ⟨_, rfl, _, rfl, _, rfl, _, _, rfl, rfl, (by show (0 : Int) < 32; decide), nN, _, _, _, rfl, rfl, .of gN, eN, ?_⟩
  refine ⟨_, _, rfl, rfl, catL (lit "frame ") rfl (by rw [c6]; omega), ?_⟩
  rw [catE (lit "frame ") rfl]
  refine ⟨_, _, rfl, rfl, catL rfl e32 (by rw [List.length_append, c6]; show _ + 1 ≤ _; omega), ?_⟩
  rw [catE rfl e32]
  refine ⟨_, rfl, _, rfl, _, rfl, _, _, rfl, rfl, (by show (0 : Int) < 32; decide), nP, _, _, _, rfl, rfl, .of gP, eP, ?_⟩
  have h28 : ((cs "frame " ++ tn) ++ [32]).length ≤ 27 := by
    rw [List.length_append, List.length_append, c6]
    show _ + 1 ≤ _
    omega
  refine ⟨_, _, rfl, rfl, catL rfl rfl (by omega), ?_⟩
  rw [catE rfl rfl]
  have h47 : (((cs "frame " ++ tn) ++ [32]) ++ tp).length ≤ 47 := by
    rw [List.length_append]
    omega
  generalize ((cs "frame " ++ tn) ++ [32]) ++ tp = hd at h47
  refine ⟨_, rfl, _, rfl, _, rfl, p, _, rfl, .of gl, fun y1 v1 => ?_⟩
  rw [cut_sV (by omega)]
  refine ⟨_, rfl, szN (n := 3) (Nat.le_refl _), fun y2 v2 => ⟨y1, y2, _, _, rfl, rfl, (Same.new v2) _ _ upd_same, upd_same, ?_, fun y3 v3 => ⟨_, rfl, _, rfl, _, rfl, p, _, rfl, .of ((Same.add (Same.add (Same.new v1) v2) v3) _ _ gl), fun y4 v4 => ?_⟩⟩⟩
  · rw [sV_len]
    exact szN (n := 500003) (by have := tk ((j : Nat) : Int).toNat; show _ + 3 ≤ _; omega)
  rw [cut_sV_from (by omega)]
  refine ⟨y3, y4, _, _, rfl, rfl, (Same.new v4) _ _ upd_same, upd_same, ?_, fun y5 v5 => ?_⟩
  · rw [List.length_append, sV_len, sV_len]
    exact szN (n := 1000003) (by have := tk ((j : Nat) : Int).toNat; have := dr ((j : Nat) : Int).toNat; show _ + 3 + _ ≤ _; omega)
  refine q y5 (ls.take ((j : Nat) : Int).toNat ++ [hd, sSlots, sStack] ++ ls.drop ((j : Nat) : Int).toNat) _ (Same.add (Same.add (Same.add (Same.add (Same.add kH v1) v2) v3) v4) v5) ?_ ?_
  · rw [upd_same, ← sV_app, ← sV_app]
    have e1 : ("slots" : Str) = S sSlots := lit _
    have e2 : ("stack" : Str) = S sStack := lit _
    rw [e1, e2]
    rfl
  · have := msum_split ls ((j : Nat) : Int).toNat
    rw [msum_append, msum_append]
    show _ + (hd.length + 1 + (5 + 1 + (5 + 1 + 0))) + _ ≤ _
    omega
theorem aim15 (I : Aim K H G p ls nN nP nE nO nF nS fs ks) (q : AimQ H ls D.rt) : aS15 K D (sA p d a b c nN nP nE nO nF nS j) G := by
  have mlen' := I.mlen
  have tk := I.tk
  have dr := I.dr
  obtain ⟨kH, gl, ⟨xsN, gN, lN, tN⟩, ⟨xsP, gP, lP, tP⟩, ⟨xsE, gE, lE, tE⟩, ⟨xsO, gO, lO, tO⟩, gF, hfl, gK, bk, hlp, hms⟩ := I
  have hlp' : (0 : Int) < ((sV ls).length : Int) := by rw [sV_len]; omega
  obtain ⟨tn, eN, bN⟩ := at_tx tN (i := a % 16) (by omega) (by rw [lN]; omega)
  obtain ⟨t7, e7, b7⟩ := at_tx (n := 20) (xs := [V.str ("" : Str), V.str (" 7" : Str)]) (by decide +kernel) (i := b % 2) (by omega) (by show b % 2 < 2; omega)
  have c7 : (cs "object ").length = 7 := by decide
  refine ⟨_, rfl, _, rfl, p, _, rfl, .inl (.of gl), _, _, rfl, rfl, _, rfl, p, _, rfl, .of gl, fun y1 v1 => ?_⟩
  have hm0 : 0 ≤ (((sV ls).length : Nat) : Int) - 1 := by omega
  rw [cut_sV hm0]
  have k1 := Same.new (o := .lst (sV (ls.take ((((sV ls).length : Nat) : Int) - 1).toNat))) v1
  refine ⟨_, rfl, _, rfl, _, rfl, _, _, rfl, rfl, (by show (0 : Int) < 16; decide), nN, _, _, _, rfl, rfl, .of (k1 _ _ gN), eN, ?_⟩
  refine ⟨_, _, rfl, rfl, catL (lit "object ") rfl (by rw [c7]; omega), ?_⟩
  rw [catE (lit "object ") rfl]
  refine ⟨szN (n := 2) (Nat.le_refl _), fun y2 v2 => ⟨_, rfl, _, rfl, _, _, rfl, rfl, (by show (0 : Int) < 2; decide), y2, _, _, _, rfl, rfl, .of upd_same, e7, ?_⟩⟩
  have h27 : (cs "object " ++ tn).length ≤ 27 := by
    rw [List.length_append, c7]
    omega
  refine ⟨_, _, rfl, rfl, catL rfl rfl (by omega), ?_⟩
  rw [catE rfl rfl]
  have h47 : ((cs "object " ++ tn) ++ t7).length ≤ 47 := by
    rw [List.length_append]
    omega
  generalize (cs "object " ++ tn) ++ t7 = hd at h47
  refine ⟨szN (n := 1) (Nat.le_refl _), fun y3 v3 => ⟨y1, y3, _, _, rfl, rfl, (Same.add (Same.new v2) v3) _ _ upd_same, upd_same, ?_, fun y4 v4 => ⟨_, rfl, _, rfl, p, _, rfl, .inl (.of ((Same.add (Same.add (Same.add k1 v2) v3) v4) _ _ gl)), _, _, rfl, rfl, _, rfl, p, _, rfl, .of ((Same.add (Same.add (Same.add k1 v2) v3) v4) _ _ gl), fun y5 v5 => ?_⟩⟩⟩
  · rw [sV_len]
    exact szN (n := 500003) (by have := tk ((((sV ls).length : Nat) : Int) - 1).toNat; show _ + 1 ≤ _; omega)
  rw [cut_sV_from hm0]
  refine ⟨y4, y5, _, _, rfl, rfl, (Same.new v5) _ _ upd_same, upd_same, ?_, fun y6 v6 => ?_⟩
  · exact len3 (tk _) (dr _) (by show 1 ≤ 10; decide)
  refine q y6 (ls.take ((((sV ls).length : Nat) : Int) - 1).toNat ++ [hd] ++ ls.drop ((((sV ls).length : Nat) : Int) - 1).toNat) _ ?_ ?_ ?_
  · exact Same.add (Same.add (Same.add (Same.add (Same.add (Same.add kH v1) v2) v3) v4) v5) v6
  · rw [upd_same, ← sV_app, ← sV_app]
    rfl
  · have := msum_split ls ((((sV ls).length : Nat) : Int) - 1).toNat
    rw [msum_append, msum_append]
    show _ + (hd.length + 1 + 0) + _ ≤ _
    omega
theorem aimL (I : Aim K H G p ls nN nP nE nO nF nS fs ks) (q : AimQ H ls D.rt) : aSL K D (sA p d a b c nN nP nE nO nF nS j) G := by
  have mlen' := I.mlen
  have tk := I.tk
  have dr := I.dr
  obtain ⟨kH, gl, ⟨xsN, gN, lN, tN⟩, ⟨xsP, gP, lP, tP⟩, ⟨xsE, gE, lE, tE⟩, ⟨xsO, gO, lO, tO⟩, gF, hfl, gK, bk, hlp, hms⟩ := I
  have hlp' : (0 : Int) < ((sV ls).length : Int) := by rw [sV_len]; omega
  have bm := mlen' a
  have bm0 := bm.1
  refine ⟨_, rfl, _, rfl, _, rfl, p, _, rfl, .inl (.of gl), _, _, rfl, rfl, hlp', ?_⟩
  obtain ⟨to, eO, bO⟩ := at_tx tO (i := b % ((xsO.length : Nat) : Int)) (Int.emod_nonneg _ (by omega)) (Int.emod_lt_of_pos _ (by omega))
  refine ⟨_, rfl, _, rfl, _, rfl, p, _, rfl, .of gl, fun y1 v1 => ?_⟩
  rw [cut_sV bm.1]
  have k1 := Same.new (o := .lst (sV (ls.take (a % (((sV ls).length : Nat) : Int)).toNat))) v1
  refine ⟨_, rfl, _, rfl, _, rfl, _, rfl, nO, _, rfl, .inl (.of (k1 _ _ gO)), _, _, rfl, rfl, by show (0 : Int) < ((xsO.length : Nat) : Int); omega, nO, _, _, _, rfl, rfl, .of (k1 _ _ gO), eO, ?_⟩
  refine ⟨szN (n := 1) (Nat.le_refl _), fun y3 v3 => ⟨y1, y3, _, _, rfl, rfl, (Same.new v3) _ _ upd_same, upd_same, ?_, fun y4 v4 => ⟨_, rfl, _, rfl, _, rfl, _, rfl, _, _, rfl, rfl, (by show (0 : Int) < 2; decide), _, _, rfl, rfl, _, rfl, p, _, rfl, .of ((Same.add (Same.add k1 v3) v4) _ _ gl), fun y5 v5 => ?_⟩⟩⟩
  · rw [sV_len]
    exact szN (n := 500003) (by have := tk (a % (((sV ls).length : Nat) : Int)).toNat; show _ + 1 ≤ _; omega)
  rw [cut_sV_from (by omega)]
  generalize hm2 : ((a % (((sV ls).length : Nat) : Int)) + c % 2).toNat = m2
  refine ⟨y4, y5, _, _, rfl, rfl, (Same.new v5) _ _ upd_same, upd_same, ?_, fun y6 v6 => ?_⟩
  · exact len3 (tk _) (dr _) (by show 1 ≤ 10; decide)
  refine q y6 (ls.take (a % (((sV ls).length : Nat) : Int)).toNat ++ [to] ++ ls.drop m2) _ ?_ ?_ ?_
  · exact Same.add (Same.add (Same.add (Same.add (Same.add kH v1) v3) v4) v5) v6
  · rw [upd_same, ← sV_app, ← sV_app]
    rfl
  · have h1 := msum_split ls (a % (((sV ls).length : Nat) : Int)).toNat
    have h2 := msum_drop ls (a % (((sV ls).length : Nat) : Int)).toNat
    have h3 : msum (ls.drop m2) ≤ msum (ls.drop (a % (((sV ls).length : Nat) : Int)).toNat) := by
      have : m2 = (a % (((sV ls).length : Nat) : Int)).toNat ∨ m2 = (a % (((sV ls).length : Nat) : Int)).toNat + 1 := by omega
      rcases this with z | z
      · rw [z]; exact Nat.le_refl _
      · rw [z]; exact h2
    rw [msum_append, msum_append]
    show _ + (to.length + 1 + 0) + _ ≤ _
    omega
theorem aim16 (I : Aim K H G p ls nN nP nE nO nF nS fs ks) (q : AimQ H ls D.rt) (hk : (0 : Int) < ((ks.length : Nat) : Int)) : aS16 K D (sA p d a b c nN nP nE nO nF nS j) G := by
  have mlen' := I.mlen
  have tk := I.tk
  have dr := I.dr
  obtain ⟨kH, gl, ⟨xsN, gN, lN, tN⟩, ⟨xsP, gP, lP, tP⟩, ⟨xsE, gE, lE, tE⟩, ⟨xsO, gO, lO, tO⟩, gF, hfl, gK, bk, hlp, hms⟩ := I
  obtain ⟨k, ek, hkm⟩ := at_iV (l := ks) (i := a % (((iV ks).length : Nat) : Int)) (Int.emod_nonneg _ (by rw [iV_len]; omega)) (by rw [iV_len]; exact Int.emod_lt_of_pos _ hk)
  obtain ⟨bk0, bk1⟩ := bk k hkm
  obtain ⟨k, rfl⟩ := Int.eq_ofNat_of_zero_le bk0
  have hkl : k < ls.length := by omega
  have hkf : k < fs.length := by omega
  have hlk := List.getElem?_eq_getElem hkl
  have hfk := List.getElem?_eq_getElem hkf
  refine ⟨_, rfl, _, rfl, _, rfl, _, rfl, nS, _, rfl, .inl (.of gK), _, _, rfl, rfl, by rw [iV_len]; exact hk, nS, _, _, _, rfl, rfl, .of gK, ek, ?_⟩
  have es : ("static" : Str) = S sStatic := lit _
  refine ⟨_, rfl, _, rfl, p, _, _, _, rfl, rfl, .of gl, atI_nat (sV_get hlk), szN (n := 2) (Nat.le_refl _), fun y0 v0 => ?_⟩
  have k0 := Same.new (o := .lst [V.str (S ls[k]), V.str ("static" : Str)]) v0
  refine ⟨_, rfl, _, rfl, nF, _, _, _, rfl, rfl, .of (k0 _ _ gF), atI_nat (sV_get hfk), rfl, _, rfl, y0, _, _, _, rfl, rfl, .of upd_same, at_two _ _ _, ?_⟩
  have elh' : ∀ kk : Bool, ∃ lh, (if kk = true then V.str ("static" : Str) else V.str (S ls[k])) = V.str (S lh) ∧ lh.length ≤ ls[k].length + 6 := fun kk => by
    cases kk with
    | true => exact ⟨sStatic, by rw [es]; rfl, by show 6 ≤ _; omega⟩
    | false => exact ⟨ls[k], rfl, by omega⟩
  obtain ⟨te, eE, bE⟩ := at_tx tE (i := b % ((xsE.length : Nat) : Int)) (Int.emod_nonneg _ (by omega)) (Int.emod_lt_of_pos _ (by omega))
  obtain ⟨lh, elh, blh⟩ := elh' (decide (V.str (S fs[k]) = V.str ("static" : Str)))
  rw [elh]
  refine ⟨_, rfl, _, rfl, _, rfl, p, _, rfl, .of (k0 _ _ gl), fun y1 v1 => ?_⟩
  rw [cut_sV (by omega)]
  have k1 := Same.add (o := .lst (sV (ls.take ((k : Nat) : Int).toNat))) k0 v1
  refine ⟨_, rfl, _, _, rfl, rfl, catL rfl e32 (by show _ + 1 ≤ _; have := msum_at hlk; omega), ?_⟩
  rw [catE rfl e32]
  refine ⟨_, rfl, _, rfl, _, rfl, _, rfl, nE, _, rfl, .inl (.of (k1 _ _ gE)), _, _, rfl, rfl, by show (0 : Int) < ((xsE.length : Nat) : Int); omega, nE, _, _, _, rfl, rfl, .of (k1 _ _ gE), eE, ?_⟩
  have hm := msum_at hlk
  have hl2 : (lh ++ [32]).length ≤ ls[k].length + 7 := by
    rw [List.length_append]
    show _ + 1 ≤ _
    omega
  refine ⟨_, _, rfl, rfl, catL rfl rfl (by omega), ?_⟩
  rw [catE rfl rfl]
  have hl3 : ((lh ++ [32]) ++ te).length ≤ ls[k].length + 27 := by
    rw [List.length_append]
    omega
  generalize (lh ++ [32]) ++ te = hd at hl3
  refine ⟨szN (n := 1) (Nat.le_refl _), fun y3 v3 => ⟨y1, y3, _, _, rfl, rfl, (Same.new v3) _ _ upd_same, upd_same, ?_, fun y4 v4 => ⟨_, rfl, _, rfl, _, _, rfl, rfl, _, rfl, p, _, rfl, .of ((Same.add (Same.add k1 v3) v4) _ _ gl), fun y5 v5 => ?_⟩⟩⟩
  · rw [sV_len]
    exact szN (n := 500003) (by have := tk ((k : Nat) : Int).toNat; show _ + 1 ≤ _; omega)
  rw [cut_sV_from (by omega)]
  refine ⟨y4, y5, _, _, rfl, rfl, (Same.new v5) _ _ upd_same, upd_same, len3 (tk _) (dr _) (by show 1 ≤ 10; decide), fun y6 v6 => ?_⟩
  refine q y6 (ls.take ((k : Nat) : Int).toNat ++ [hd] ++ ls.drop (((k : Nat) : Int) + 1).toNat) _ ?_ ?_ ?_
  · exact Same.add (Same.add (Same.add (Same.add (Same.add (Same.add kH v0) v1) v3) v4) v5) v6
  · rw [upd_same, ← sV_app, ← sV_app]
    rfl
  · have e1 : ((k : Nat) : Int).toNat = k := by omega
    have e2 : (((k : Nat) : Int) + 1).toNat = k + 1 := by omega
    rw [e1, e2, msum_append, msum_append]
    show _ + (hd.length + 1 + 0) + _ ≤ _
    omega
/-- the end of the def -/
theorem aimT (I : Aim K H G p ls nN nP nE nO nF nS fs ks) (q : AimQ H ls D.rt) : aT K D (sA p d a b c nN nP nE nO nF nS j) G := by
  refine ⟨_, rfl, rfl, _, rfl, ?_⟩
  rw [dI]
  refine itD (fun _ => aim13 I q) (fun _ => ?_)
  refine ⟨_, rfl, rfl, _, rfl, ?_⟩
  rw [dI]
  refine itD (fun _ => aim14 I q) (fun _ => ?_)
  refine ⟨_, rfl, rfl, _, rfl, ?_⟩
  rw [dI]
  refine itD (fun _ => aim15 I q) (fun _ => ?_)
  refine ⟨_, rfl, rfl, _, rfl, ?_⟩
  rw [dI]
  refine itD (fun _ => ?_) (fun _ => aimL I q)
  refine ⟨_, rfl, nS, _, rfl, .inl (.of I.gK), _, _, rfl, rfl, _, rfl, itD (fun hk => ?_) (fun _ => aimL I q)⟩
  rw [iV_len] at hk
  exact aim16 I q hk
end
end Qb

/-! Kq4 -/
set_option Elab.async false
set_option linter.all false
set_option maxRecDepth 100000
set_option maxHeartbeats 2000000
/-! Reading: the lists of the def that edits at a place. -/
namespace Qb
open PySem PySem.Spec PyProof.Rows L2
def aA0 (K : Frag) : TS :=
  (tAsg (tLst (tCons (tC (.str "")) (tCons (tC (.str "num")) (tCons (tC (.str "mixed")) (tCons (tC (.str "unset")) (tCons (tC (.str "9x")) (tCons (tC (.str "x9")) (tCons (tC (.str "aA")) (tCons (tC (.str "a-b")) (tCons (tC (.str "abcdefghijklmnop")) (tCons (tC (.str "abcdefghijklmnopq")) (tCons (tC (.str "z")) (tCons (tC (.str "Num")) (tCons (tC (.str "nums")) tNil)))))))))))))) (gName 5))
def aA1 (K : Frag) : TS :=
  (tAsg (tOp rCat (tOp rCat (tVar 5) (tLst (tCons (tC (.str "a_b")) (tCons (tC (.str "a.b")) (tCons (tC (.str "unset0")) tNil))))) (tOp rRep (tLst (tCons (tC (.str "main")) tNil)) (tC (.int 16)))) (gName 5))
def aA2 (K : Frag) : TS :=
  (tAsg (tLst (tCons (tC (.str "0")) (tCons (tC (.str "199")) (tCons (tC (.str "200")) (tCons (tC (.str "-1")) (tCons (tC (.str "-0")) (tCons (tC (.str "00")) (tCons (tC (.str "019")) (tCons (tC (.str "nil")) (tCons (tC (.str "@0")) (tCons (tC (.str "1000")) (tCons (tC (.str "")) (tCons (tC (.str "198")) (tCons (tC (.str "+1")) (tCons (tC (.str "1_9")) (tCons (tC (.str "2147483648")) (tCons (tC (.str "12345678901")) tNil))))))))))))))))) (gName 6))
def aA3 (K : Frag) : TS :=
  (tAsg (tOp rCat (tVar 6) (tOp rRep (tLst (tCons (tC (.str "7")) tNil)) (tC (.int 16)))) (gName 6))
def aA4 (K : Frag) : TS :=
  (tAsg (tLst (tCons (tC (.str "2147483647")) (tCons (tC (.str "2147483648")) (tCons (tC (.str "-2147483648")) (tCons (tC (.str "-2147483649")) (tCons (tC (.str "4294967296")) (tCons (tC (.str "-0")) (tCons (tC (.str "00")) (tCons (tC (.str "-07")) (tCons (tC (.str "+1")) (tCons (tC (.str "1_0")) (tCons (tC (.str "-")) (tCons (tC (.str "--1")) (tCons (tC (.str "")) tNil)))))))))))))) (gName 7))
def aA5 (K : Frag) : TS :=
  (tAsg (tOp rCat (tVar 7) (tLst (tCons (tC (.str "@99999")) (tCons (tC (.str "@100000")) (tCons (tC (.str "@00")) (tCons (tC (.str "@-0")) (tCons (tC (.str "@-1")) (tCons (tC (.str "@")) (tCons (tC (.str "@nil")) (tCons (tC (.str "Nil")) (tCons (tC (.str "NIL")) (tCons (tC (.str "nil")) (tCons (tC (.str "0")) tNil))))))))))))) (gName 7))
def aA6 (K : Frag) : TS :=
  (tAsg (tLst (tCons (tC (.str "# nothing")) (tCons (tC (.str "#")) (tCons (tC (.str "Watched")) (tCons (tC (.str "STATIC 1")) (tCons (tC (.str "static  1")) (tCons (tC (.str " static 1")) (tCons (tC (.str "static 1 ")) (tCons (tC (.str "slots ")) (tCons (tC (.str " stack")) (tCons (tC (.str "object box  1")) (tCons (tC (.str "end")) tNil)))))))))))) (gName 8))
def aA7 (K : Frag) : TS :=
  (tAsg (tLc (iList K (tVar 0)) (gName 14) tYes (tOp (rIxL K) (tM1 rSplit (tVar 14) (tC (.str " "))) (tC (.int 0))) [14]) (gName 9))
def aA8 (K : Frag) : TS :=
  (tAsg (tLc (iRng1 (tCons (tCB (rLenQ K) (tCons (tVar 0) tNil)) tNil)) (gName 15) (tTest (tOp (rIn K false) (tOp (rIxL K) (tVar 9) (tVar 15)) (tLst (tCons (tC (.str "static")) (tCons (tC (.str "slots")) (tCons (tC (.str "stack")) (tCons (tC (.str "watched")) (tCons (tC (.str "parted")) (tCons (tC (.str "object")) tNil))))))))) (tVar 15) [15]) (gName 10))
def aA9 (K : Frag) : TS :=
  (tAsg (tBM K "list" (rIndex K) (tOp rCat (tVar 9) (tLst (tCons (tC (.str "watched")) tNil))) (tCons (tC (.str "watched")) tNil)) (gName 11))
theorem aim_eq (A : Ad) (K : Frag) (w : World) : t__law_aimed A K w = (tSeq (aA0 K) (tSeq (aA1 K) (tSeq (aA2 K) (tSeq (aA3 K) (tSeq (aA4 K) (tSeq (aA5 K) (tSeq (aA6 K) (tSeq (aA7 K) (tSeq (aA8 K) (tSeq (aA9 K) (aT K))))))))))) := rfl
section
variable {A : Ad} {K : Frag} {w : World} {mg : Str → Option Value} {vs : List V} {H : Hp} {Q : VK} {E : XK}
theorem len__law_aimed (h : sp__law_aimed A K vs H Q E) : vs.length = 5 := by obtain ⟨_, _, _, _, _, _, rfl, _⟩ := h; rfl
theorem pure__law_aimed (h : sp__law_aimed A K vs H Q E) : t__law_aimed A K w { nx := fun _ H' => Q .non H', rt := Q } (start N__law_aimed vs) H := by
  obtain ⟨p, ls, d, a, b, c, rfl, hp, hne, hms, q⟩ := h
  have hll := msum_len ls
  have hlp : 0 < ls.length := List.length_pos_iff.mpr hne
  have hlp' : (0 : Int) < ((sV ls).length : Int) := by rw [sV_len]; omega
  rw [aim_eq]
  -- names
  refine ⟨szN (n := 13) (Nat.le_refl _), fun n1 u1 => ?_⟩
  generalize hG1 : upd _ n1 _ = G1
  have e1 : Same H G1 := by rw [← hG1]; exact Same.new u1
  obtain ⟨xs1, g1, l1, t1⟩ : ∃ xs, G1 n1 = some (.lst xs) ∧ xs.length = 13 ∧ txB 20 xs = true := ⟨_, by rw [← hG1, upd_same], rfl, by decide +kernel⟩
  clear hG1
  refine ⟨_, rfl, szN (n := 3) (Nat.le_refl _), fun n2 u2 => ⟨n1, n2, _, _, rfl, rfl, (Same.new u2) _ _ g1, upd_same, by rw [l1]; exact szN (n := 16) (Nat.le_refl _), fun n3 u3 => ?_⟩⟩
  refine ⟨szN (n := 1) (Nat.le_refl _), fun n4 u4 => ⟨n4, 16, _, rfl, rfl, upd_same, by decide, by decide, szN (n := 16) (Nat.le_refl _), fun n5 u5 => ⟨n3, n5, _, _, rfl, rfl, (Same.add (Same.new u4) u5) _ _ upd_same, upd_same, by rw [List.length_append, l1]; exact szN (n := 32) (Nat.le_refl _), fun nN u6 => ?_⟩⟩⟩
  generalize hG2 : upd _ nN _ = G2
  have e2 : Same G1 G2 := by rw [← hG2]; exact Same.add (Same.add (Same.add (Same.add (Same.new u2) u3) u4) u5) u6
  obtain ⟨xsN, gN, lN, tN⟩ : ∃ xs, G2 nN = some (.lst xs) ∧ xs.length = 32 ∧ txB 20 xs = true := ⟨_, by rw [← hG2, upd_same], by rw [List.length_append, List.length_append, l1]; rfl, by rw [txB_append, txB_append, t1]; decide +kernel⟩
  clear hG2 u2 u3 u4 u5 u6
  -- places
  refine ⟨szN (n := 16) (Nat.le_refl _), fun n1 u1 => ?_⟩
  generalize hG3 : upd _ n1 _ = G3
  have e3 : Same G2 G3 := by rw [← hG3]; exact Same.new u1
  obtain ⟨xs1, g1, l1, t1⟩ : ∃ xs, G3 n1 = some (.lst xs) ∧ xs.length = 16 ∧ txB 20 xs = true := ⟨_, by rw [← hG3, upd_same], rfl, by decide +kernel⟩
  clear hG3
  refine ⟨_, rfl, szN (n := 1) (Nat.le_refl _), fun n4 u4 => ⟨n4, 16, _, rfl, rfl, upd_same, by decide, by decide, szN (n := 16) (Nat.le_refl _), fun n5 u5 => ⟨n1, n5, _, _, rfl, rfl, (Same.add (Same.new u4) u5) _ _ g1, upd_same, by rw [l1]; exact szN (n := 32) (Nat.le_refl _), fun nP u6 => ?_⟩⟩⟩
  generalize hG4 : upd _ nP _ = G4
  have e4 : Same G3 G4 := by rw [← hG4]; exact Same.add (Same.add (Same.new u4) u5) u6
  obtain ⟨xsP, gP, lP, tP⟩ : ∃ xs, G4 nP = some (.lst xs) ∧ xs.length = 32 ∧ txB 20 xs = true := ⟨_, by rw [← hG4, upd_same], by rw [List.length_append, l1]; rfl, by rw [txB_append, t1]; decide +kernel⟩
  clear hG4 u4 u5 u6
  -- edges
  refine ⟨szN (n := 13) (Nat.le_refl _), fun n1 u1 => ?_⟩
  generalize hG5 : upd _ n1 _ = G5
  have e5 : Same G4 G5 := by rw [← hG5]; exact Same.new u1
  obtain ⟨xs1, g1, l1, t1⟩ : ∃ xs, G5 n1 = some (.lst xs) ∧ xs.length = 13 ∧ txB 20 xs = true := ⟨_, by rw [← hG5, upd_same], rfl, by decide +kernel⟩
  clear hG5
  refine ⟨_, rfl, szN (n := 11) (Nat.le_refl _), fun n4 u4 => ⟨n1, n4, _, _, rfl, rfl, (Same.new u4) _ _ g1, upd_same, by rw [l1]; exact szN (n := 24) (Nat.le_refl _), fun nE u6 => ?_⟩⟩
  generalize hG6 : upd _ nE _ = G6
  have e6 : Same G5 G6 := by rw [← hG6]; exact Same.add (Same.new u4) u6
  obtain ⟨xsE, gE, lE, tE⟩ : ∃ xs, G6 nE = some (.lst xs) ∧ xs.length = 24 ∧ txB 20 xs = true := ⟨_, by rw [← hG6, upd_same], by rw [List.length_append, l1]; rfl, by rw [txB_append, t1]; decide +kernel⟩
  clear hG6 u4 u6
  -- odd
  refine ⟨szN (n := 11) (Nat.le_refl _), fun nO u1 => ?_⟩
  generalize hG7 : upd _ nO _ = G7
  have e7 : Same G6 G7 := by rw [← hG7]; exact Same.new u1
  obtain ⟨xsO, gO, lO, tO⟩ : ∃ xs, G7 nO = some (.lst xs) ∧ xs.length = 11 ∧ txB 20 xs = true := ⟨_, by rw [← hG7, upd_same], rfl, by decide +kernel⟩
  clear hG7
  have k7 : Same H G7 := ((e1.trans e2).trans (e3.trans e4)).trans ((e5.trans e6).trans e7)
  have gN := e7 _ _ (e6 _ _ (e5 _ _ (e4 _ _ (e3 _ _ gN))))
  have gP := e7 _ _ (e6 _ _ (e5 _ _ gP))
  have gE := e7 _ _ gE
  clear e1 e2 e3 e4 e5 e6 e7 g1
  -- firsts
  have gl := k7 _ _ hp
  refine ⟨_, rfl, p, rfl, ⟨_, .of gl⟩, fun nF uF => ?_⟩
  refine lc_map (walk_list (xs := sV ls)) uF ls (sV_len ls) (szN (n := 500000) (by omega)) (fun l => .str (S ((cut 32 l).headD []))) (fun H1 e => .of (e _ _ gl)) ?_ ?_
  · rintro i l x H1 H2 C hl e ⟨rfl, hx⟩ hC
    rw [sV_get hl] at hx
    have hx := Option.some.inj hx
    subst hx
    have hlen := msum_mem (List.mem_of_getElem? hl)
    refine ⟨rfl, _, rfl, ⟨_, rfl⟩, _, _, rfl, rfl, by decide, by rw [S_len]; exact szN (n := 1000002) (by omega), fun u hu => ?_⟩
    rw [e32, split1 l (by decide), sV_map]
    obtain ⟨f, r0, hfr⟩ := cut_cons 32 l
    rw [hfr] at hC ⊢
    exact ⟨u, _, 0, _, rfl, rfl, .of upd_same, atT (j := 0) rfl rfl, hC _ (Same.new hu)⟩
  intro G8 e8 gF
  have k8 := k7.trans e8
  have gl8 := e8 _ _ gl
  generalize hfs : ls.map (fun l => (cut 32 l).headD []) = fs
  have gF : G8 nF = some (.lst (sV fs)) := by
    rw [gF, ← hfs]
    unfold sV
    rw [List.map_map]
    rfl
  have hfl : fs.length = ls.length := by rw [← hfs, List.length_map]
  -- spots
  refine ⟨_, rfl, p, _, rfl, .inl (.of gl8), ((ls.length : Nat) : Int), by rw [sV_len], by omega, by omega, fun nS uS => ?_⟩
  rw [Int.toNat_natCast]
  refine lc_it walk_range (fun i H' => Same G8 H' ∧ ∃ ks, H' nS = some (.lst (iV ks)) ∧ ks.length ≤ i ∧ ∀ k ∈ ks, 0 ≤ k ∧ k < ls.length) ⟨Same.new uS, [], upd_same, Nat.zero_le _, fun _ h => by cases h⟩ (fun _ _ _ _ => trivial) ?_ ?_
  · rintro i x H1x H1 hi ⟨e, ks, gk, lk, bk⟩ ⟨rfl, rfl⟩
    have hi' : i < fs.length := by omega
    refine ⟨rfl, _, rfl, _, rfl, nF, _, _, _, rfl, rfl, .of (e _ _ gF), atT (j := i) (by omega) (sV_get (List.getElem?_eq_getElem hi')), szN (n := 6) (Nat.le_refl _), fun z hz => ?_⟩
    refine ⟨z, _, rfl, .inl (.of upd_same), rfl, rfl, _, rfl, itB (fun _ => ?_) (fun _ => ?_)⟩
    · refine ⟨_, rfl, iV ks, (Same.new hz) _ _ gk, by rw [iV_len]; exact szL (n := 500002) (by omega), ?_⟩
      rw [iV_snoc]
      refine ⟨Same.mut (Same.add e hz) uS, _, upd_same, ?_, fun k hk => ?_⟩
      · rw [List.length_append]
        show _ + 1 ≤ _
        omega
      · rcases List.mem_append.mp hk with hk | hk
        · exact bk k hk
        · rw [List.mem_singleton.mp hk]
          omega
    · exact ⟨Same.add e hz, ks, (Same.new hz) _ _ gk, by omega, bk⟩
  rintro G9 ⟨e9, ks, gK, _, bk⟩
  have k9 := k8.trans e9
  have gl9 := e9 _ _ gl8
  have gF9 := e9 _ _ gF
  have gN := e9 _ _ (e8 _ _ gN)
  have gP := e9 _ _ (e8 _ _ gP)
  have gE := e9 _ _ (e8 _ _ gE)
  have gO := e9 _ _ (e8 _ _ gO)
  -- begin
  have ew : [V.str ("watched" : Str)] = sV [sWatched] := by rw [lit]; rfl
  refine ⟨_, rfl, szN (n := 1) (Nat.le_refl _), fun z1 hz1 => ⟨nF, z1, _, _, rfl, rfl, (Same.new hz1) _ _ gF9, upd_same, by rw [sV_len]; exact szN (n := 500002) (by show fs.length + 1 ≤ _; omega), fun z2 hz2 => ⟨.inl ⟨rfl, _, .of upd_same⟩, ?_⟩⟩⟩
  have hsw : (sV fs ++ [V.str ("watched" : Str)])[fs.length]? = some (.str ("watched" : Str)) := by
    rw [List.getElem?_append_right (by rw [sV_len]; exact Nat.le_refl _), sV_len, Nat.sub_self]
    rfl
  obtain ⟨j, zz, hj, hjz, heq, hno⟩ := first_hit (.str ("watched" : Str)) _ fs.length _ hsw (by
    show (("watched" : Str) == ("watched" : Str)) = true
    simp)
  refine ⟨z2, _, _, j, zz, rfl, rfl, .of upd_same, rfl, ?_, hjz, heq, hno, ?_⟩
  · rw [ew, sV_app]
    exact flat_sV _
  have k10 : Same G9 (upd (upd G9 z1 (.lst [V.str ("watched" : Str)])) z2 (.lst (sV fs ++ [V.str ("watched" : Str)]))) := Same.add (Same.new hz1) hz2
  generalize hG10 : upd _ z2 _ = G10 at k10
  clear hG10 hz2 hz1
  have kH := k9.trans k10
  have gl := k10 _ _ gl9
  have gF := k10 _ _ gF9
  have gN := k10 _ _ gN
  have gP := k10 _ _ gP
  have gE := k10 _ _ gE
  have gO := k10 _ _ gO
  have gK := k10 _ _ gK
  exact aimT (fs := fs) (ks := ks) ⟨kH, gl, ⟨xsN, gN, lN, tN⟩, ⟨xsP, gP, lP, tP⟩, ⟨xsE, gE, lE, tE⟩, ⟨xsO, gO, lO, tO⟩, gF, hfl, gK, bk, hlp, hms⟩ q
end
end Qb

/-! Kq5 -/
set_option Elab.async false
set_option linter.all false
set_option maxRecDepth 100000
set_option maxHeartbeats 2000000
/-! Reading: a text is edited. -/
namespace Qb
open PySem PySem.Spec PyProof.Rows L2
def eE0 (A : Ad) (K : Frag) : TS :=
  (tAsg (tC (.str " 0123456789-@nilabcdefghijklmnopqrstuvwxyzAZ_+.:#/~\n")) (gName 2))
def eE1 (A : Ad) (K : Frag) : TS :=
  (tAsg (tLst (tCons (tC (.str "")) (tCons (tC (.str "nil")) (tCons (tC (.str "0")) (tCons (tC (.str "-0")) (tCons (tC (.str "00")) (tCons (tC (.str "01")) (tCons (tC (.str "+1")) (tCons (tC (.str "@")) (tCons (tC (.str "@0")) (tCons (tC (.str "@-1")) (tCons (tC (.str "@-0")) (tCons (tC (.str "@00")) (tCons (tC (.str "@99999")) (tCons (tC (.str "@100000")) (tCons (tC (.str "Nil")) (tCons (tC (.str "nil0")) tNil))))))))))))))))) (gName 3))
def eE2 (A : Ad) (K : Frag) : TS :=
  (tAsg (tOp rCat (tVar 3) (tLst (tCons (tC (.str "2147483647")) (tCons (tC (.str "2147483648")) (tCons (tC (.str "-2147483648")) (tCons (tC (.str "-2147483649")) (tCons (tC (.str "-")) (tCons (tC (.str "--1")) (tCons (tC (.str "1_0")) (tCons (tC (.str "-1_0")) (tCons (tC (.str "@1_0")) (tCons (tC (.str "12345678901")) tNil)))))))))))) (gName 3))
def eE3 (A : Ad) (K : Frag) : TS :=
  (tAsg (tOp rCat (tVar 3) (tLst (tCons (tC (.str "num")) (tCons (tC (.str "mixed")) (tCons (tC (.str "unset")) (tCons (tC (.str "x9")) (tCons (tC (.str "9x")) (tCons (tC (.str "aA")) (tCons (tC (.str "a-b")) (tCons (tC (.str "abcdefghijklmnop")) (tCons (tC (.str "abcdefghijklmnopq")) (tCons (tC (.str "199")) (tCons (tC (.str "200")) tNil))))))))))))) (gName 3))
def eE4 (A : Ad) (K : Frag) : TS :=
  (tAsg (tOp rCat (tVar 3) (tLst (tCons (tC (.str "7")) (tCons (tC (.str "-7")) (tCons (tC (.str "@7")) (tCons (tC (.str "main")) (tCons (tOp rMulS (tC (.str "8")) (tC (.int 4400))) (tCons (tOp rAddS (tC (.str "-")) (tOp rMulS (tC (.str "8")) (tC (.int 4400)))) (tCons (tOp rAddS (tC (.str "@")) (tOp rMulS (tC (.str "8")) (tC (.int 4400)))) tNil))))))))) (gName 3))
def eE5 (A : Ad) (K : Frag) : TS :=
  (tAsg (tLst (tCons (tC (.str "static")) (tCons (tC (.str "static 1")) (tCons (tC (.str "static 1 2")) (tCons (tC (.str "static nil")) (tCons (tC (.str "frame main")) (tCons (tC (.str "frame main 0")) (tCons (tC (.str "frame main 0 0")) (tCons (tC (.str "frame num 0")) tNil))))))))) (gName 4))
def eE6 (A : Ad) (K : Frag) : TS :=
  (tAsg (tOp rCat (tVar 4) (tLst (tCons (tC (.str "frame main 200")) (tCons (tC (.str "frame main nil")) (tCons (tC (.str "slots")) (tCons (tC (.str "slots nil")) (tCons (tC (.str "stack")) (tCons (tC (.str "stack 1")) (tCons (tC (.str "watched")) (tCons (tC (.str "parted")) (tCons (tC (.str "object")) tNil))))))))))) (gName 4))
def eE7 (A : Ad) (K : Frag) : TS :=
  (tAsg (tOp rCat (tVar 4) (tLst (tCons (tC (.str "object box")) (tCons (tC (.str "object box 1")) (tCons (tC (.str "object unset")) (tCons (tC (.str "")) (tCons (tC (.str " ")) (tCons (tC (.str "objects box")) tNil)))))))) (gName 4))
def eE8 (A : Ad) (K : Frag) : TS :=
  (tAsg (tM1 rSplit (tVar 0) (tC (.str "\n"))) (gName 5))
def eE9 (A : Ad) (K : Frag) : TS :=
  (tAsg (tOp rModP (tCB rIntI (tCons (tOp (rIxL K) (tVar 1) (tC (.int 1))) tNil)) (tCB (rLenQ K) (tCons (tVar 5) tNil))) (gName 6))
def eE10 (A : Ad) (K : Frag) : TS :=
  (tAsg (tOp rModP (tCB rIntI (tCons (tOp (rIxL K) (tVar 1) (tC (.int 2))) tNil)) (tCB (rLenQ K) (tCons (tVar 5) tNil))) (gName 7))
def eE11 (A : Ad) (K : Frag) : TS :=
  (tAsg (tOp rModP (tCB rIntI (tCons (tOp (rIxL K) (tVar 1) (tC (.int 1))) tNil)) (tOp rPlus (tCB rLenS (tCons (tVar 0) tNil)) (tC (.int 1)))) (gName 8))
def eE12 (A : Ad) (K : Frag) : TS :=
  (tAsg (tOp rIxS (tVar 2) (tOp rModP (tCB rIntI (tCons (tOp (rIxL K) (tVar 1) (tC (.int 2))) tNil)) (tCB rLenS (tCons (tVar 2) tNil)))) (gName 9))
def eE13 (A : Ad) (K : Frag) : TS :=
  (tAsg (tM1 rSplit (tOp (rIxL K) (tVar 5) (tVar 6)) (tC (.str " "))) (gName 10))
def eE14 (A : Ad) (K : Frag) : TS :=
  (tAsg (tOp rModP (tCB rIntI (tCons (tOp (rIxL K) (tVar 1) (tC (.int 2))) tNil)) (tCB (rLenQ K) (tCons (tVar 10) tNil))) (gName 11))
def eB15 (A : Ad) (K : Frag) : TS :=
  (tRet (tOp rAddS (tOp rAddS (tSl rSlS (tVar 0) tNoPart (tPart (tVar 8))) (tVar 9)) (tSl rSlS (tVar 0) (tPart (tOp rPlus (tVar 8) (tC (.int 1)))) tNoPart)))
def eE15 (A : Ad) (K : Frag) : TS :=
  (tIfS (tTest (tOp rEq (tOp (rIxL K) (tVar 1) (tC (.int 0))) (tC (.int 1)))) (eB15 A K) tNext)
def eB16 (A : Ad) (K : Frag) : TS :=
  (tRet (tOp rAddS (tOp rAddS (tSl rSlS (tVar 0) tNoPart (tPart (tVar 8))) (tVar 9)) (tSl rSlS (tVar 0) (tPart (tVar 8)) tNoPart)))
def eE16 (A : Ad) (K : Frag) : TS :=
  (tIfS (tTest (tOp rEq (tOp (rIxL K) (tVar 1) (tC (.int 0))) (tC (.int 2)))) (eB16 A K) tNext)
def eB17 (A : Ad) (K : Frag) : TS :=
  (tRet (tOp rAddS (tSl rSlS (tVar 0) tNoPart (tPart (tVar 8))) (tSl rSlS (tVar 0) (tPart (tOp rPlus (tVar 8) (tC (.int 1)))) tNoPart)))
def eE17 (A : Ad) (K : Frag) : TS :=
  (tIfS (tTest (tOp rEq (tOp (rIxL K) (tVar 1) (tC (.int 0))) (tC (.int 3)))) (eB17 A K) tNext)
def eB18 (A : Ad) (K : Frag) : TS :=
  (tRet (tSl rSlS (tVar 0) tNoPart (tPart (tVar 8))))
def eE18 (A : Ad) (K : Frag) : TS :=
  (tIfS (tTest (tOp rEq (tOp (rIxL K) (tVar 1) (tC (.int 0))) (tC (.int 4)))) (eB18 A K) tNext)
def eB19 (A : Ad) (K : Frag) : TS :=
  (tRet (tOp rAddS (tOp rAddS (tVar 0) (tOp (rIxL K) (tVar 4) (tOp (rIxL K) (tVar 1) (tC (.int 4))))) (tOp (rIxL K) (tLst (tCons (tC (.str "\n")) (tCons (tC (.str "")) tNil))) (tOp rModP (tCB rIntI (tCons (tOp (rIxL K) (tVar 1) (tC (.int 3))) tNil)) (tC (.int 2))))))
def eE19 (A : Ad) (K : Frag) : TS :=
  (tIfS (tTest (tOp rEq (tOp (rIxL K) (tVar 1) (tC (.int 0))) (tC (.int 5)))) (eB19 A K) tNext)
def eB20 (A : Ad) (K : Frag) : TS :=
  (tAsg (tOp rCat (tSl (rSlL K) (tVar 5) tNoPart (tPart (tVar 6))) (tSl (rSlL K) (tVar 5) (tPart (tOp rPlus (tVar 6) (tC (.int 1)))) tNoPart)) (gName 5))
def eE20 (A : Ad) (K : Frag) : TS :=
  (tIfS (tTest (tOp rEq (tOp (rIxL K) (tVar 1) (tC (.int 0))) (tC (.int 6)))) (eB20 A K) tNext)
def eB21 (A : Ad) (K : Frag) : TS :=
  (tAsg (tOp rCat (tOp rCat (tSl (rSlL K) (tVar 5) tNoPart (tPart (tVar 6))) (tLst (tCons (tOp (rIxL K) (tVar 5) (tVar 6)) tNil))) (tSl (rSlL K) (tVar 5) (tPart (tVar 6)) tNoPart)) (gName 5))
def eE21 (A : Ad) (K : Frag) : TS :=
  (tIfS (tTest (tOp rEq (tOp (rIxL K) (tVar 1) (tC (.int 0))) (tC (.int 7)))) (eB21 A K) tNext)
def eB22 (A : Ad) (K : Frag) : TS :=
  (tSeq (tAsg (tOp (rIxL K) (tVar 5) (tVar 6)) (gName 12)) (tSeq (tAsg (tOp (rIxL K) (tVar 5) (tVar 7)) (gSub (tVar 5) (tVar 6) rSetL)) (tAsg (tVar 12) (gSub (tVar 5) (tVar 7) rSetL))))
def eE22 (A : Ad) (K : Frag) : TS :=
  (tIfS (tTest (tOp rEq (tOp (rIxL K) (tVar 1) (tC (.int 0))) (tC (.int 8)))) (eB22 A K) tNext)
def eB23 (A : Ad) (K : Frag) : TS :=
  (tAsg (tOp rCat (tOp rCat (tSl (rSlL K) (tVar 5) tNoPart (tPart (tVar 6))) (tLst (tCons (tOp (rIxL K) (tVar 4) (tOp (rIxL K) (tVar 1) (tC (.int 4)))) tNil))) (tSl (rSlL K) (tVar 5) (tPart (tVar 6)) tNoPart)) (gName 5))
def eE23 (A : Ad) (K : Frag) : TS :=
  (tIfS (tTest (tOp rEq (tOp (rIxL K) (tVar 1) (tC (.int 0))) (tC (.int 9)))) (eB23 A K) tNext)
def eB24 (A : Ad) (K : Frag) : TS :=
  (tAsg (tM1 (rJoin K) (tC (.str " ")) (tOp rCat (tOp rCat (tSl (rSlL K) (tVar 10) tNoPart (tPart (tVar 11))) (tLst (tCons (tOp (rIxL K) (tVar 3) (tOp (rIxL K) (tVar 1) (tC (.int 3)))) tNil))) (tSl (rSlL K) (tVar 10) (tPart (tOp rPlus (tVar 11) (tC (.int 1)))) tNoPart))) (gSub (tVar 5) (tVar 6) rSetL))
def eE24 (A : Ad) (K : Frag) : TS :=
  (tIfS (tTest (tOp rEq (tOp (rIxL K) (tVar 1) (tC (.int 0))) (tC (.int 10)))) (eB24 A K) tNext)
def eB25 (A : Ad) (K : Frag) : TS :=
  (tSeq (tAsg (tOp rModP (tCB rIntI (tCons (tOp (rIxL K) (tVar 1) (tC (.int 2))) tNil)) (tOp rPlus (tCB (rLenQ K) (tCons (tVar 10) tNil)) (tC (.int 1)))) (gName 11)) (tAsg (tM1 (rJoin K) (tC (.str " ")) (tOp rCat (tOp rCat (tSl (rSlL K) (tVar 10) tNoPart (tPart (tVar 11))) (tLst (tCons (tOp (rIxL K) (tVar 3) (tOp (rIxL K) (tVar 1) (tC (.int 3)))) tNil))) (tSl (rSlL K) (tVar 10) (tPart (tVar 11)) tNoPart))) (gSub (tVar 5) (tVar 6) rSetL)))
def eE25 (A : Ad) (K : Frag) : TS :=
  (tIfS (tTest (tOp rEq (tOp (rIxL K) (tVar 1) (tC (.int 0))) (tC (.int 11)))) (eB25 A K) tNext)
def eB26 (A : Ad) (K : Frag) : TS :=
  (tAsg (tM1 (rJoin K) (tC (.str " ")) (tOp rCat (tSl (rSlL K) (tVar 10) tNoPart (tPart (tVar 11))) (tSl (rSlL K) (tVar 10) (tPart (tOp rPlus (tVar 11) (tC (.int 1)))) tNoPart))) (gSub (tVar 5) (tVar 6) rSetL))
def eE26 (A : Ad) (K : Frag) : TS :=
  (tIfS (tTest (tOp rEq (tOp (rIxL K) (tVar 1) (tC (.int 0))) (tC (.int 12)))) (eB26 A K) tNext)
def eB27 (A : Ad) (K : Frag) : TS :=
  (tAsg (tCall (sp__law_aimed A K) [] E0 (tCons (tVar 5) (tCons (tOp (rIxL K) (tLst (tCons (tC (.int 13)) (tCons (tC (.int 14)) (tCons (tC (.int 15)) (tCons (tC (.int 16)) (tCons (tC (.int 17)) (tCons (tC (.int 14)) (tCons (tC (.int 14)) (tCons (tC (.int 15)) (tCons (tC (.int 16)) tNil)))))))))) (tOp rMinus (tOp (rIxL K) (tVar 1) (tC (.int 0))) (tC (.int 13)))) (tCons (tOp (rIxL K) (tVar 1) (tC (.int 1))) (tCons (tOp (rIxL K) (tVar 1) (tC (.int 2))) (tCons (tOp (rIxL K) (tVar 1) (tC (.int 3))) tNil)))))) (gName 5))
def eE27 (A : Ad) (K : Frag) : TS :=
  (tIfS (tTest (tOp rGt' (tOp (rIxL K) (tVar 1) (tC (.int 0))) (tC (.int 12)))) (eB27 A K) tNext)
def eE28 (A : Ad) (K : Frag) : TS :=
  (tRet (tM1 (rJoin K) (tC (.str "\n")) (tVar 5)))
theorem edit_eq (A : Ad) (K : Frag) (w : World) : t__law_edited A K w = (tSeq (eE0 A K) (tSeq (eE1 A K) (tSeq (eE2 A K) (tSeq (eE3 A K) (tSeq (eE4 A K) (tSeq (eE5 A K) (tSeq (eE6 A K) (tSeq (eE7 A K) (tSeq (eE8 A K) (tSeq (eE9 A K) (tSeq (eE10 A K) (tSeq (eE11 A K) (tSeq (eE12 A K) (tSeq (eE13 A K) (tSeq (eE14 A K) (tSeq (eE15 A K) (tSeq (eE16 A K) (tSeq (eE17 A K) (tSeq (eE18 A K) (tSeq (eE19 A K) (tSeq (eE20 A K) (tSeq (eE21 A K) (tSeq (eE22 A K) (tSeq (eE23 A K) (tSeq (eE24 A K) (tSeq (eE25 A K) (tSeq (eE26 A K) (tSeq (eE27 A K) (eE28 A K))))))))))))))))))))))))))))) := rfl
/-- where things stand ahead of the edit -/
structure Edt (K : Frag) (H G : Hp) (t : T) (p pO pR pL pW : Addr) (rs : List Int) (r0 r1 r2 r3 r4 a o s pl : Int) (sg : T) (la : T) : Prop where
  kH : Same H G
  tl : t.length ≤ 200000
  gr : SqL K G p (iV rs)
  i0 : rs[0]? = some r0
  i1 : rs[1]? = some r1
  i2 : rs[2]? = some r2
  i3 : rs[3]? = some r3
  i4 : rs[4]? = some r4
  b0 : 0 ≤ r0 ∧ r0 < 22
  b3 : 0 ≤ r3 ∧ r3 < 44
  b4 : 0 ≤ r4 ∧ r4 < 23
  gO : ∃ xs, G pO = some (.lst xs) ∧ xs.length = 44 ∧ txB 4401 xs = true
  gR : ∃ xs, G pR = some (.lst xs) ∧ xs.length = 23 ∧ txB 20 xs = true
  gL : G pL = some (.lst (sV (cut 10 t)))
  nL : H pL = none
  ba : 0 ≤ a ∧ a < (cut 10 t).length
  bo : 0 ≤ o ∧ o < (cut 10 t).length
  bs : 0 ≤ s ∧ s ≤ t.length
  sl : sg.length ≤ 1
  ia : (cut 10 t)[a.toNat]? = some la
  gW : G pW = some (.lst (sV (cut 32 la)))
  bp : 0 ≤ pl ∧ pl < (cut 32 la).length
  hr : SqL K H p (iV rs)
abbrev sE (t : T) (p pO pR pL pW : Addr) (a o s pl : Int) (sgn : Str) (sg : T) : L2.St := [some (.str (S t)), some (.ref p), some (.str sgn), some (.ref pO), some (.ref pR), some (.ref pL), some (.int a), some (.int o), some (.int s), some (.str (S sg)), some (.ref pW), some (.int pl), none]
def EdQ (H : Hp) (Q : VK) : Prop := ∀ t' H', Same H H' → t'.length ≤ big → Q (.str (S t')) H'
theorem cutS_toI {t : T} {n : Int} (h : 0 ≤ n) : cutS (S t) none (some n) = S (t.take n.toNat) := by
  obtain ⟨j, rfl⟩ := Int.eq_ofNat_of_zero_le h
  rw [cutS_to]
  rfl
theorem cutS_fromI {t : T} {n : Int} (h : 0 ≤ n) : cutS (S t) (some n) none = S (t.drop n.toNat) := by
  obtain ⟨j, rfl⟩ := Int.eq_ofNat_of_zero_le h
  rw [cutS_from]
  rfl
theorem ixN_nn {n : Nat} {i : Int} (h0 : 0 ≤ i) (h1 : i < n) : ixN n i = some i.toNat := by
  unfold ixN
  rw [if_pos h0, if_pos h1]
theorem sV_set {ls : List T} {j : Nat} {x : T} : (sV ls).set j (.str (S x)) = sV (ls.set j x) := by
  unfold sV
  rw [List.map_set]
theorem len2 {X Y : List T} {n : Nat} (hX : X.length ≤ n) (hY : Y.length ≤ n) (hn : n ≤ 1000000) : (sV X).length + (sV Y).length ≤ sizeLine := by
  rw [sV_len, sV_len]
  exact szN (n := 2000000) (by omega)
theorem len3' {X Y : List T} {xs : List V} {n : Nat} (hX : X.length ≤ n) (hY : Y.length ≤ n) (hx : xs.length ≤ 10) (hn : n ≤ 1000000) : (sV X ++ xs).length + (sV Y).length ≤ sizeLine := by
  rw [List.length_append, sV_len, sV_len]
  exact szN (n := 2000010) (by omega)
section
variable {A : Ad} {K : Frag} {w : World} {mg : Str → Option Value} {vs : List V} {H G : Hp} {Q : VK} {E : XK} {D : Ends} {t sg la : T} {p pO pR pL pW : Addr} {rs : List Int} {r0 r1 r2 r3 r4 a o s pl : Int} {sgn : Str}
theorem sk_no {σ : L2.St} {k : Int} {B u : TS} (hs : σ[1]? = some (some (.ref p))) (hp : SqL K G p (iV rs)) (h0 : rs[0]? = some r0) (hk : r0 ≠ k) (q : u D σ G) : tSeq (tIfS (tTest (tOp rEq (tOp (rIxL K) (tVar 1) (tC (.int 0))) (tC (.int k)))) B tNext) u D σ G := by
  refine ⟨_, hs, p, _, 0, _, rfl, rfl, hp, atT (j := 0) rfl (iV_get h0), rfl, _, rfl, ?_⟩
  rw [dI]
  exact itFalse hk q
theorem sk_yes {σ : L2.St} {k : Int} {B u : TS} (hs : σ[1]? = some (some (.ref p))) (hp : SqL K G p (iV rs)) (h0 : rs[0]? = some r0) (hk : r0 = k) (q : B { D with nx := u D } σ G) : tSeq (tIfS (tTest (tOp rEq (tOp (rIxL K) (tVar 1) (tC (.int 0))) (tC (.int k)))) B tNext) u D σ G := by
  refine ⟨_, hs, p, _, 0, _, rfl, rfl, hp, atT (j := 0) rfl (iV_get h0), rfl, _, rfl, ?_⟩
  rw [dI]
  exact itTrue hk q
theorem sk_gt {σ : L2.St} {B u : TS} (hs : σ[1]? = some (some (.ref p))) (hp : SqL K G p (iV rs)) (h0 : rs[0]? = some r0) (hk : ¬ 12 < r0) (q : u D σ G) : tSeq (tIfS (tTest (tOp rGt' (tOp (rIxL K) (tVar 1) (tC (.int 0))) (tC (.int 12)))) B tNext) u D σ G :=
  ⟨_, hs, p, _, 0, _, rfl, rfl, hp, atT (j := 0) rfl (iV_get h0), _, _, rfl, rfl, _, rfl, itFalse hk q⟩
theorem sk_gy {σ : L2.St} {B u : TS} (hs : σ[1]? = some (some (.ref p))) (hp : SqL K G p (iV rs)) (h0 : rs[0]? = some r0) (hk : 12 < r0) (q : B { D with nx := u D } σ G) : tSeq (tIfS (tTest (tOp rGt' (tOp (rIxL K) (tVar 1) (tC (.int 0))) (tC (.int 12)))) B tNext) u D σ G :=
  ⟨_, hs, p, _, 0, _, rfl, rfl, hp, atT (j := 0) rfl (iV_get h0), _, _, rfl, rfl, _, rfl, itTrue hk q⟩
/-- the lines are joined -/
theorem edJoin {σ : L2.St} {l : Addr} {ls : List T} (hs : σ[5]? = some (some (.ref l))) (hl : G l = some (.lst (sV ls))) (hm : msum ls ≤ 900000) (k : Same H G) (q : EdQ H D.rt) : eE28 A K D σ G := by
  refine ⟨⟨_, rfl⟩, _, hs, ?_⟩
  have e10 : ("\n" : Str) = S [10] := lit _
  have e := msum_eq ls
  have j := joinL_len [10] ls
  have j1 : ([10] : T).length = 1 := rfl
  rw [j1] at j
  rw [e10]
  refine join_it (.of hl) ?_ (q _ _ k ?_)
  · show _ + ls.length * 1 ≤ _
    omega
  · show _ ≤ 1000000
    omega
/-- an edit has been made -/
def EdD (K : Frag) (H : Hp) (t : T) (p : Addr) (rs : List Int) (D : Ends) : Prop := ∀ (σ : L2.St) (G : Hp) (l : Addr) (ls : List T), σ[1]? = some (some (.ref p)) → σ[5]? = some (some (.ref l)) → Same H G → SqL K G p (iV rs) → G l = some (.lst (sV ls)) → msum ls ≤ 900000 → D.nx σ G
theorem Edt.lines (I : Edt K H G t p pO pR pL pW rs r0 r1 r2 r3 r4 a o s pl sg la) : msum (cut 10 t) ≤ 200001 ∧ (cut 10 t).length ≤ 200001 ∧ la.length ≤ 200001 ∧ msum (cut 32 la) ≤ 200002 ∧ (cut 32 la).length ≤ 200002 := by
  have h1 := cut_msum 10 t
  have h2 := I.tl
  have h3 := msum_len (cut 10 t)
  have h4 := msum_mem (List.mem_of_getElem? I.ia)
  have h5 := cut_msum 32 la
  have h6 := msum_len (cut 32 la)
  exact ⟨by omega, by omega, by omega, by omega, by omega⟩
theorem edB15 (I : Edt K H G t p pO pR pL pW rs r0 r1 r2 r3 r4 a o s pl sg la) (q : EdQ H D.rt) : eB15 A K D (sE t p pO pR pL pW a o s pl sgn sg) G := by
  obtain ⟨kH, tl, gr, i0, i1, i2, i3, i4, b0, b3, b4, gO, gR, gL, nL, ba, bo, bs, sl, ia, gW, bp, hr⟩ := I
  refine ⟨_, rfl, _, rfl, _, rfl, _, rfl, szT (n := 200000) tl, ?_⟩
  rw [cutS_toI bs.1]
  have h1 : (t.take s.toNat).length ≤ 200000 := by rw [List.length_take]; omega
  refine ⟨_, rfl, _, _, rfl, rfl, catL rfl rfl (by omega), ?_⟩
  rw [catE rfl rfl]
  refine ⟨_, rfl, _, rfl, _, _, rfl, rfl, _, rfl, _, rfl, szT (n := 200000) tl, ?_⟩
  rw [cutS_fromI (by omega)]
  have h2 : (t.drop (s + 1).toNat).length ≤ 200000 := by rw [List.length_drop]; omega
  have h3 : (t.take s.toNat ++ sg).length ≤ 200001 := by rw [List.length_append]; omega
  refine ⟨_, _, rfl, rfl, catL rfl rfl (by omega), ?_⟩
  rw [catE rfl rfl]
  refine q _ _ kH ?_
  rw [List.length_append]
  show _ ≤ 1000000
  omega
theorem edB16 (I : Edt K H G t p pO pR pL pW rs r0 r1 r2 r3 r4 a o s pl sg la) (q : EdQ H D.rt) : eB16 A K D (sE t p pO pR pL pW a o s pl sgn sg) G := by
  obtain ⟨kH, tl, gr, i0, i1, i2, i3, i4, b0, b3, b4, gO, gR, gL, nL, ba, bo, bs, sl, ia, gW, bp, hr⟩ := I
  refine ⟨_, rfl, _, rfl, _, rfl, _, rfl, szT (n := 200000) tl, ?_⟩
  rw [cutS_toI bs.1]
  have h1 : (t.take s.toNat).length ≤ 200000 := by rw [List.length_take]; omega
  refine ⟨_, rfl, _, _, rfl, rfl, catL rfl rfl (by omega), ?_⟩
  rw [catE rfl rfl]
  refine ⟨_, rfl, _, rfl, _, rfl, _, rfl, szT (n := 200000) tl, ?_⟩
  rw [cutS_fromI bs.1]
  have h2 : (t.drop s.toNat).length ≤ 200000 := by rw [List.length_drop]; omega
  have h3 : (t.take s.toNat ++ sg).length ≤ 200001 := by rw [List.length_append]; omega
  refine ⟨_, _, rfl, rfl, catL rfl rfl (by omega), ?_⟩
  rw [catE rfl rfl]
  refine q _ _ kH ?_
  rw [List.length_append]
  show _ ≤ 1000000
  omega
theorem edB17 (I : Edt K H G t p pO pR pL pW rs r0 r1 r2 r3 r4 a o s pl sg la) (q : EdQ H D.rt) : eB17 A K D (sE t p pO pR pL pW a o s pl sgn sg) G := by
  obtain ⟨kH, tl, gr, i0, i1, i2, i3, i4, b0, b3, b4, gO, gR, gL, nL, ba, bo, bs, sl, ia, gW, bp, hr⟩ := I
  refine ⟨_, rfl, _, rfl, _, rfl, _, rfl, szT (n := 200000) tl, ?_⟩
  rw [cutS_toI bs.1]
  have h1 : (t.take s.toNat).length ≤ 200000 := by rw [List.length_take]; omega
  refine ⟨_, rfl, _, rfl, _, _, rfl, rfl, _, rfl, _, rfl, szT (n := 200000) tl, ?_⟩
  rw [cutS_fromI (by omega)]
  have h2 : (t.drop (s + 1).toNat).length ≤ 200000 := by rw [List.length_drop]; omega
  refine ⟨_, _, rfl, rfl, catL rfl rfl (by omega), ?_⟩
  rw [catE rfl rfl]
  refine q _ _ kH ?_
  rw [List.length_append]
  show _ ≤ 1000000
  omega
theorem edB18 (I : Edt K H G t p pO pR pL pW rs r0 r1 r2 r3 r4 a o s pl sg la) (q : EdQ H D.rt) : eB18 A K D (sE t p pO pR pL pW a o s pl sgn sg) G := by
  obtain ⟨kH, tl, gr, i0, i1, i2, i3, i4, b0, b3, b4, gO, gR, gL, nL, ba, bo, bs, sl, ia, gW, bp, hr⟩ := I
  refine ⟨_, rfl, _, rfl, _, rfl, _, rfl, szT (n := 200000) tl, ?_⟩
  rw [cutS_toI bs.1]
  have h1 : (t.take s.toNat).length ≤ 200000 := by rw [List.length_take]; omega
  refine q _ _ kH ?_
  show _ ≤ 1000000
  omega
theorem edB19 (I : Edt K H G t p pO pR pL pW rs r0 r1 r2 r3 r4 a o s pl sg la) (q : EdQ H D.rt) : eB19 A K D (sE t p pO pR pL pW a o s pl sgn sg) G := by
  obtain ⟨kH, tl, gr, i0, i1, i2, i3, i4, b0, b3, b4, gO, ⟨xR, gR, lR, tR⟩, gL, nL, ba, bo, bs, sl, ia, gW, bp, hr⟩ := I
  obtain ⟨tr, eR, bR⟩ := at_tx tR (i := r4) b4.1 (by rw [lR]; exact b4.2)
  obtain ⟨te, eE, bE⟩ := at_tx (n := 20) (xs := [V.str ("\n" : Str), V.str ("" : Str)]) (by decide +kernel) (i := r3 % 2) (by omega) (by show r3 % 2 < 2; omega)
  refine ⟨_, rfl, _, rfl, _, rfl, p, _, _, _, rfl, rfl, gr, atT (j := 4) rfl (iV_get i4), pR, _, _, _, rfl, rfl, .of gR, eR, ?_⟩
  refine ⟨_, _, rfl, rfl, catL rfl rfl (by omega), ?_⟩
  rw [catE rfl rfl]
  have h3 : (t ++ tr).length ≤ 200020 := by rw [List.length_append]; omega
  refine ⟨szN (n := 2) (Nat.le_refl _), fun u hu => ⟨_, rfl, p, _, _, _, rfl, rfl, smL (Same.new hu) gr, atT (j := 3) rfl (iV_get i3), _, rfl, _, _, rfl, rfl, (by show (0 : Int) < 2; decide), u, _, _, _, rfl, rfl, .of upd_same, eE, ?_⟩⟩
  refine ⟨_, _, rfl, rfl, catL rfl rfl (by omega), ?_⟩
  rw [catE rfl rfl]
  refine q _ _ (Same.add kH hu) ?_
  rw [List.length_append]
  show _ ≤ 1000000
  omega
theorem edB20 (I : Edt K H G t p pO pR pL pW rs r0 r1 r2 r3 r4 a o s pl sg la) (q : EdD K H t p rs D) : eB20 A K D (sE t p pO pR pL pW a o s pl sgn sg) G := by
  obtain ⟨m1, m2, m3, m4, m5⟩ := I.lines
  obtain ⟨kH, tl, gr, i0, i1, i2, i3, i4, b0, b3, b4, gO, gR, gL, nL, ba, bo, bs, sl, ia, gW, bp, hr⟩ := I
  refine ⟨_, rfl, _, rfl, _, rfl, pL, _, rfl, .of gL, fun y1 v1 => ?_⟩
  rw [cut_sV ba.1]
  refine ⟨_, rfl, _, rfl, _, _, rfl, rfl, _, rfl, pL, _, rfl, .of ((Same.new v1) _ _ gL), fun y2 v2 => ?_⟩
  rw [cut_sV_from (by omega)]
  refine ⟨y1, y2, _, _, rfl, rfl, (Same.new v2) _ _ upd_same, upd_same, len2 (n := 200001) (by rw [List.length_take]; omega) (by rw [List.length_drop]; omega) (by decide), fun y3 v3 => ?_⟩
  refine q _ _ y3 ((cut 10 t).take a.toNat ++ (cut 10 t).drop (a + 1).toNat) rfl rfl ?_ ?_ ?_ ?_
  · exact Same.add (Same.add (Same.add kH v1) v2) v3
  · exact smL (Same.add (Same.add (Same.new v1) v2) v3) gr
  · rw [upd_same, sV_app]
  · have h1 := msum_split (cut 10 t) a.toNat
    have h2 := msum_drop (cut 10 t) a.toNat
    have e : (a + 1).toNat = a.toNat + 1 := by omega
    rw [msum_append, e]
    omega
theorem edB21 (I : Edt K H G t p pO pR pL pW rs r0 r1 r2 r3 r4 a o s pl sg la) (q : EdD K H t p rs D) : eB21 A K D (sE t p pO pR pL pW a o s pl sgn sg) G := by
  obtain ⟨m1, m2, m3, m4, m5⟩ := I.lines
  obtain ⟨kH, tl, gr, i0, i1, i2, i3, i4, b0, b3, b4, gO, gR, gL, nL, ba, bo, bs, sl, ia, gW, bp, hr⟩ := I
  refine ⟨_, rfl, _, rfl, _, rfl, pL, _, rfl, .of gL, fun y1 v1 => ?_⟩
  rw [cut_sV ba.1]
  have k1 := Same.new (o := .lst (sV ((cut 10 t).take a.toNat))) v1
  refine ⟨_, rfl, _, rfl, pL, _, _, _, rfl, rfl, .of (k1 _ _ gL), atT (j := a.toNat) (by omega) (sV_get ia), szN (n := 1) (Nat.le_refl _), fun y2 v2 => ⟨y1, y2, _, _, rfl, rfl, (Same.new v2) _ _ upd_same, upd_same, ?_, fun y3 v3 => ?_⟩⟩
  · rw [sV_len]
    exact szN (n := 200002) (by show _ + 1 ≤ _; rw [List.length_take]; omega)
  refine ⟨_, rfl, _, rfl, _, rfl, pL, _, rfl, .of ((Same.add (Same.add k1 v2) v3) _ _ gL), fun y4 v4 => ?_⟩
  rw [cut_sV_from ba.1]
  refine ⟨y3, y4, _, _, rfl, rfl, (Same.new v4) _ _ upd_same, upd_same, len3' (n := 200001) (by rw [List.length_take]; omega) (by rw [List.length_drop]; omega) (by show 1 ≤ 10; decide) (by decide), fun y5 v5 => ?_⟩
  refine q _ _ y5 ((cut 10 t).take a.toNat ++ [la] ++ (cut 10 t).drop a.toNat) rfl rfl ?_ ?_ ?_ ?_
  · exact Same.add (Same.add (Same.add (Same.add (Same.add kH v1) v2) v3) v4) v5
  · exact smL (Same.add (Same.add (Same.add (Same.add (Same.new v1) v2) v3) v4) v5) gr
  · rw [upd_same, ← sV_app, ← sV_app]
    rfl
  · have h1 := msum_split (cut 10 t) a.toNat
    rw [msum_append, msum_append]
    show _ + (la.length + 1 + 0) + _ ≤ _
    omega
theorem edB22 (I : Edt K H G t p pO pR pL pW rs r0 r1 r2 r3 r4 a o s pl sg la) (q : EdD K H t p rs D) : eB22 A K D (sE t p pO pR pL pW a o s pl sgn sg) G := by
  obtain ⟨m1, m2, m3, m4, m5⟩ := I.lines
  obtain ⟨kH, tl, gr, i0, i1, i2, i3, i4, b0, b3, b4, gO, gR, gL, nL, ba, bo, bs, sl, ia, gW, bp, hr⟩ := I
  have ho : o.toNat < (cut 10 t).length := by omega
  have io := List.getElem?_eq_getElem ho
  have lo := msum_mem (List.mem_of_getElem? io)
  generalize (cut 10 t)[o.toNat] = lb at io lo
  refine ⟨_, rfl, _, rfl, pL, _, _, _, rfl, rfl, .of gL, atT (j := a.toNat) (by omega) (sV_get ia), ?_⟩
  refine ⟨_, rfl, _, rfl, pL, _, _, _, rfl, rfl, .of gL, atT (j := o.toNat) (by omega) (sV_get io), ?_⟩
  refine ⟨_, rfl, _, rfl, pL, _, a, a.toNat, rfl, rfl, gL, by rw [sV_len]; exact ixN_nn ba.1 ba.2, ?_⟩
  rw [sV_set]
  refine ⟨_, rfl, _, rfl, _, rfl, pL, _, o, o.toNat, rfl, rfl, upd_same, by rw [sV_len, List.length_set]; exact ixN_nn bo.1 bo.2, ?_⟩
  rw [sV_set, upd_upd]
  refine q _ _ pL (((cut 10 t).set a.toNat lb).set o.toNat la) rfl rfl (Same.mut kH nL) (smL (Same.mut kH nL) hr) upd_same ?_
  have h1 := msum_set (ls := cut 10 t) (n := a.toNat) (x := lb)
  have h2 := msum_set (ls := (cut 10 t).set a.toNat lb) (n := o.toNat) (x := la)
  omega
theorem edB23 (I : Edt K H G t p pO pR pL pW rs r0 r1 r2 r3 r4 a o s pl sg la) (q : EdD K H t p rs D) : eB23 A K D (sE t p pO pR pL pW a o s pl sgn sg) G := by
  obtain ⟨m1, m2, m3, m4, m5⟩ := I.lines
  obtain ⟨kH, tl, gr, i0, i1, i2, i3, i4, b0, b3, b4, gO, ⟨xR, gR, lR, tR⟩, gL, nL, ba, bo, bs, sl, ia, gW, bp, hr⟩ := I
  obtain ⟨tr, eR, bR⟩ := at_tx tR (i := r4) b4.1 (by rw [lR]; exact b4.2)
  refine ⟨_, rfl, _, rfl, _, rfl, pL, _, rfl, .of gL, fun y1 v1 => ?_⟩
  rw [cut_sV ba.1]
  have k1 := Same.new (o := .lst (sV ((cut 10 t).take a.toNat))) v1
  refine ⟨_, rfl, _, rfl, p, _, _, _, rfl, rfl, smL k1 gr, atT (j := 4) rfl (iV_get i4), pR, _, _, _, rfl, rfl, .of (k1 _ _ gR), eR, szN (n := 1) (Nat.le_refl _), fun y2 v2 => ⟨y1, y2, _, _, rfl, rfl, (Same.new v2) _ _ upd_same, upd_same, ?_, fun y3 v3 => ?_⟩⟩
  · rw [sV_len]
    exact szN (n := 200002) (by show _ + 1 ≤ _; rw [List.length_take]; omega)
  refine ⟨_, rfl, _, rfl, _, rfl, pL, _, rfl, .of ((Same.add (Same.add k1 v2) v3) _ _ gL), fun y4 v4 => ?_⟩
  rw [cut_sV_from ba.1]
  refine ⟨y3, y4, _, _, rfl, rfl, (Same.new v4) _ _ upd_same, upd_same, len3' (n := 200001) (by rw [List.length_take]; omega) (by rw [List.length_drop]; omega) (by show 1 ≤ 10; decide) (by decide), fun y5 v5 => ?_⟩
  refine q _ _ y5 ((cut 10 t).take a.toNat ++ [tr] ++ (cut 10 t).drop a.toNat) rfl rfl ?_ ?_ ?_ ?_
  · exact Same.add (Same.add (Same.add (Same.add (Same.add kH v1) v2) v3) v4) v5
  · exact smL (Same.add (Same.add (Same.add (Same.add (Same.new v1) v2) v3) v4) v5) gr
  · rw [upd_same, ← sV_app, ← sV_app]
    rfl
  · have h1 := msum_split (cut 10 t) a.toNat
    rw [msum_append, msum_append]
    show _ + (tr.length + 1 + 0) + _ ≤ _
    omega
/-- a line is set anew from words -/
theorem set_line {σ : L2.St} {z : Addr} {M : List T} {J : Hp} (hb : 0 ≤ a ∧ a < (cut 10 t).length) (h5 : σ[5]? = some (some (.ref pL))) (h6 : σ[6]? = some (some (.int a))) (h1 : σ[1]? = some (some (.ref p))) (kH : Same H J) (nL : H pL = none) (hr : SqL K H p (iV rs)) (gL : J pL = some (.lst (sV (cut 10 t))))
    (gz : J z = some (.lst (sV M))) (hM : msum M ≤ 300000) (hc : msum (cut 10 t) ≤ 200001) (q : EdD K H t p rs D) : rJoin K (.str (" " : Str)) [.ref z] J fun x H1 => gSub (tVar 5) (tVar 6) rSetL x σ H1 D.nx := by
  have e := msum_eq M
  have j := joinL_len [32] M
  have j1 : ([32] : T).length = 1 := rfl
  rw [j1] at j
  rw [e32]
  refine join_it (.of gz) (by rw [j1]; omega) ?_
  refine ⟨_, h5, _, h6, pL, _, a, a.toNat, rfl, rfl, gL, by rw [sV_len]; exact ixN_nn hb.1 hb.2, ?_⟩
  rw [sV_set]
  refine q _ _ pL ((cut 10 t).set a.toNat (TL.joinL [32] M)) h1 h5 (Same.mut kH nL) (smL (Same.mut kH nL) hr) upd_same ?_
  have h := msum_set (ls := cut 10 t) (n := a.toNat) (x := TL.joinL [32] M)
  omega
theorem edB24 (I : Edt K H G t p pO pR pL pW rs r0 r1 r2 r3 r4 a o s pl sg la) (q : EdD K H t p rs D) : eB24 A K D (sE t p pO pR pL pW a o s pl sgn sg) G := by
  obtain ⟨m1, m2, m3, m4, m5⟩ := I.lines
  obtain ⟨kH, tl, gr, i0, i1, i2, i3, i4, b0, b3, b4, ⟨xO, gO, lO, tO⟩, gR, gL, nL, ba, bo, bs, sl, ia, gW, bp, hr⟩ := I
  obtain ⟨tr, eO, bO⟩ := at_tx tO (i := r3) b3.1 (by rw [lO]; exact b3.2)
  refine ⟨⟨_, rfl⟩, _, rfl, _, rfl, _, rfl, pW, _, rfl, .of gW, fun y1 v1 => ?_⟩
  rw [cut_sV bp.1]
  have k1 := Same.new (o := .lst (sV ((cut 32 la).take pl.toNat))) v1
  refine ⟨_, rfl, _, rfl, p, _, _, _, rfl, rfl, smL k1 gr, atT (j := 3) rfl (iV_get i3), pO, _, _, _, rfl, rfl, .of (k1 _ _ gO), eO, szN (n := 1) (Nat.le_refl _), fun y2 v2 => ⟨y1, y2, _, _, rfl, rfl, (Same.new v2) _ _ upd_same, upd_same, ?_, fun y3 v3 => ?_⟩⟩
  · rw [sV_len]
    exact szN (n := 200003) (by show _ + 1 ≤ _; rw [List.length_take]; omega)
  refine ⟨_, rfl, _, rfl, _, _, rfl, rfl, _, rfl, pW, _, rfl, .of ((Same.add (Same.add k1 v2) v3) _ _ gW), fun y4 v4 => ?_⟩
  rw [cut_sV_from (by omega)]
  refine ⟨y3, y4, _, _, rfl, rfl, (Same.new v4) _ _ upd_same, upd_same, len3' (n := 200002) (by rw [List.length_take]; omega) (by rw [List.length_drop]; omega) (by show 1 ≤ 10; decide) (by decide), fun y5 v5 => ?_⟩
  have kk := Same.add (o := .lst ((sV ((cut 32 la).take pl.toNat) ++ [V.str (S tr)]) ++ sV ((cut 32 la).drop (pl + 1).toNat))) (Same.add (o := .lst (sV ((cut 32 la).drop (pl + 1).toNat))) (Same.add (Same.add k1 v2) v3) v4) v5
  refine set_line (M := (cut 32 la).take pl.toNat ++ [tr] ++ (cut 32 la).drop (pl + 1).toNat) ba rfl rfl rfl (kH.trans kk) nL hr (kk _ _ gL) ?_ ?_ m1 q
  · rw [upd_same, ← sV_app, ← sV_app]
    rfl
  · have h1 := msum_split (cut 32 la) pl.toNat
    have h2 := msum_drop (cut 32 la) pl.toNat
    have e : (pl + 1).toNat = pl.toNat + 1 := by omega
    rw [msum_append, msum_append, e]
    show _ + (tr.length + 1 + 0) + _ ≤ _
    omega
theorem edB25 (I : Edt K H G t p pO pR pL pW rs r0 r1 r2 r3 r4 a o s pl sg la) (q : EdD K H t p rs D) : eB25 A K D (sE t p pO pR pL pW a o s pl sgn sg) G := by
  obtain ⟨m1, m2, m3, m4, m5⟩ := I.lines
  obtain ⟨kH, tl, gr, i0, i1, i2, i3, i4, b0, b3, b4, ⟨xO, gO, lO, tO⟩, gR, gL, nL, ba, bo, bs, sl, ia, gW, bp, hr⟩ := I
  obtain ⟨tr, eO, bO⟩ := at_tx tO (i := r3) b3.1 (by rw [lO]; exact b3.2)
  refine ⟨_, rfl, p, _, _, _, rfl, rfl, gr, atT (j := 2) rfl (iV_get i2), _, rfl, _, rfl, pW, _, rfl, .inl (.of gW), _, _, rfl, rfl, _, _, rfl, rfl, by omega, ?_⟩
  have hq0 : 0 ≤ r2 % ((((sV (cut 32 la)).length : Nat) : Int) + 1) := Int.emod_nonneg _ (by omega)
  refine ⟨⟨_, rfl⟩, _, rfl, _, rfl, _, rfl, pW, _, rfl, .of gW, fun y1 v1 => ?_⟩
  rw [cut_sV hq0]
  have k1 := Same.new (o := .lst (sV ((cut 32 la).take (r2 % ((((sV (cut 32 la)).length : Nat) : Int) + 1)).toNat))) v1
  refine ⟨_, rfl, _, rfl, p, _, _, _, rfl, rfl, smL k1 gr, atT (j := 3) rfl (iV_get i3), pO, _, _, _, rfl, rfl, .of (k1 _ _ gO), eO, szN (n := 1) (Nat.le_refl _), fun y2 v2 => ⟨y1, y2, _, _, rfl, rfl, (Same.new v2) _ _ upd_same, upd_same, ?_, fun y3 v3 => ?_⟩⟩
  · rw [sV_len]
    exact szN (n := 200003) (by show _ + 1 ≤ _; rw [List.length_take]; omega)
  refine ⟨_, rfl, _, rfl, _, rfl, pW, _, rfl, .of ((Same.add (Same.add k1 v2) v3) _ _ gW), fun y4 v4 => ?_⟩
  rw [cut_sV_from hq0]
  refine ⟨y3, y4, _, _, rfl, rfl, (Same.new v4) _ _ upd_same, upd_same, len3' (n := 200002) (by rw [List.length_take]; omega) (by rw [List.length_drop]; omega) (by show 1 ≤ 10; decide) (by decide), fun y5 v5 => ?_⟩
  have kk := Same.add (o := .lst ((sV ((cut 32 la).take (r2 % ((((sV (cut 32 la)).length : Nat) : Int) + 1)).toNat) ++ [V.str (S tr)]) ++ sV ((cut 32 la).drop (r2 % ((((sV (cut 32 la)).length : Nat) : Int) + 1)).toNat))) (Same.add (o := .lst (sV ((cut 32 la).drop (r2 % ((((sV (cut 32 la)).length : Nat) : Int) + 1)).toNat))) (Same.add (Same.add k1 v2) v3) v4) v5
  refine set_line (M := (cut 32 la).take (r2 % ((((sV (cut 32 la)).length : Nat) : Int) + 1)).toNat ++ [tr] ++ (cut 32 la).drop (r2 % ((((sV (cut 32 la)).length : Nat) : Int) + 1)).toNat) ba rfl rfl rfl (kH.trans kk) nL hr (kk _ _ gL) ?_ ?_ m1 q
  · rw [upd_same, ← sV_app, ← sV_app]
    rfl
  · have h1 := msum_split (cut 32 la) (r2 % ((((sV (cut 32 la)).length : Nat) : Int) + 1)).toNat
    rw [msum_append, msum_append]
    show _ + (tr.length + 1 + 0) + _ ≤ _
    omega
theorem edB26 (I : Edt K H G t p pO pR pL pW rs r0 r1 r2 r3 r4 a o s pl sg la) (q : EdD K H t p rs D) : eB26 A K D (sE t p pO pR pL pW a o s pl sgn sg) G := by
  obtain ⟨m1, m2, m3, m4, m5⟩ := I.lines
  obtain ⟨kH, tl, gr, i0, i1, i2, i3, i4, b0, b3, b4, gO, gR, gL, nL, ba, bo, bs, sl, ia, gW, bp, hr⟩ := I
  refine ⟨⟨_, rfl⟩, _, rfl, _, rfl, _, rfl, pW, _, rfl, .of gW, fun y1 v1 => ?_⟩
  rw [cut_sV bp.1]
  have k1 := Same.new (o := .lst (sV ((cut 32 la).take pl.toNat))) v1
  refine ⟨_, rfl, _, rfl, _, _, rfl, rfl, _, rfl, pW, _, rfl, .of (k1 _ _ gW), fun y4 v4 => ?_⟩
  rw [cut_sV_from (by omega)]
  refine ⟨y1, y4, _, _, rfl, rfl, (Same.new v4) _ _ upd_same, upd_same, len2 (n := 200002) (by rw [List.length_take]; omega) (by rw [List.length_drop]; omega) (by decide), fun y5 v5 => ?_⟩
  have kk := Same.add (o := .lst (sV ((cut 32 la).take pl.toNat) ++ sV ((cut 32 la).drop (pl + 1).toNat))) (Same.add (o := .lst (sV ((cut 32 la).drop (pl + 1).toNat))) k1 v4) v5
  refine set_line (M := (cut 32 la).take pl.toNat ++ (cut 32 la).drop (pl + 1).toNat) ba rfl rfl rfl (kH.trans kk) nL hr (kk _ _ gL) ?_ ?_ m1 q
  · rw [upd_same, ← sV_app]
  · have h1 := msum_split (cut 32 la) pl.toNat
    have h2 := msum_drop (cut 32 la) pl.toNat
    have e : (pl + 1).toNat = pl.toNat + 1 := by omega
    rw [msum_append, e]
    omega
theorem edB27 (I : Edt K H G t p pO pR pL pW rs r0 r1 r2 r3 r4 a o s pl sg la) (hk : 12 < r0) (q : EdD K H t p rs D) : eB27 A K D (sE t p pO pR pL pW a o s pl sgn sg) G := by
  obtain ⟨m1, m2, m3, m4, m5⟩ := I.lines
  obtain ⟨kH, tl, gr, i0, i1, i2, i3, i4, b0, b3, b4, gO, gR, gL, nL, ba, bo, bs, sl, ia, gW, bp, hr⟩ := I
  obtain ⟨n, en, _⟩ := at_iV (l := [13, 14, 15, 16, 17, 14, 14, 15, 16]) (i := r0 - 13) (by omega) (by show r0 - 13 < 9; omega)
  refine ⟨_, rfl, szN (n := 9) (Nat.le_refl _), fun y v => ?_⟩
  have k1 := Same.new (o := .lst (iV [13, 14, 15, 16, 17, 14, 14, 15, 16])) v
  have gr1 := smL k1 gr
  refine ⟨_, rfl, p, _, _, _, rfl, rfl, gr1, atT (j := 0) rfl (iV_get i0), _, _, rfl, rfl, y, _, _, _, rfl, rfl, .of upd_same, en, ?_⟩
  refine ⟨_, rfl, p, _, _, _, rfl, rfl, gr1, atT (j := 1) rfl (iV_get i1), _, rfl, p, _, _, _, rfl, rfl, gr1, atT (j := 2) rfl (iV_get i2), _, rfl, p, _, _, _, rfl, rfl, gr1, atT (j := 3) rfl (iV_get i3), ?_⟩
  refine ⟨pL, cut 10 t, n, r1, r2, r3, rfl, k1 _ _ gL, cut_ne 10 t, by omega, fun z ls' H' e g hm => ?_⟩
  exact q _ _ z ls' rfl rfl ((kH.trans k1).trans e) (smL (k1.trans e) gr) g (by omega)
end
end Qb

/-! Kq6 -/
set_option Elab.async false
set_option linter.all false
set_option maxRecDepth 100000
set_option maxHeartbeats 2000000
/-! Reading: a text is edited, put together. -/
namespace Qb
open PySem PySem.Spec PyProof.Rows L2
theorem txB_cons {n : Nat} {x : Str} {r : List V} (h : x.length ≤ n) (hr : txB n r = true) : txB n (.str x :: r) = true := by
  show (decide (x.length ≤ n) && txB n r) = true
  rw [decide_eq_true h, hr]
  rfl
theorem at_T {t : T} {i : Int} (h0 : 0 ≤ i) (h1 : i < t.length) : ∃ c, atI (S t).cps.toList i = some c := by
  obtain ⟨j, rfl⟩ := Int.eq_ofNat_of_zero_le h0
  have hj : j < t.length := by omega
  have h2 : (S t).cps.toList[j]? = some t[j] := List.getElem?_eq_getElem hj
  exact ⟨_, atI_nat h2⟩
theorem len_app (x y : Str) : (x ++ y).length = x.length + y.length := by
  have h1 := S_tl x
  have h2 := S_tl y
  rw [← h1, ← h2, S_append, S_len, S_len, S_len, List.length_append]
section
variable {A : Ad} {K : Frag} {w : World} {mg : Str → Option Value} {vs : List V} {H G : Hp} {Q : VK} {E : XK} {D : Ends} {t sg la : T} {p pO pR pL pW : Addr} {rs : List Int} {r0 r1 r2 r3 r4 a o s pl : Int} {sgn : Str} {u : TS}
theorem edTail (I : Edt K H G t p pO pR pL pW rs r0 r1 r2 r3 r4 a o s pl sg la) (q : EdQ H D.rt) : tSeq (eE15 A K) (tSeq (eE16 A K) (tSeq (eE17 A K) (tSeq (eE18 A K) (tSeq (eE19 A K) (tSeq (eE20 A K) (tSeq (eE21 A K) (tSeq (eE22 A K) (tSeq (eE23 A K) (tSeq (eE24 A K) (tSeq (eE25 A K) (tSeq (eE26 A K) (tSeq (eE27 A K) (eE28 A K))))))))))))) D (sE t p pO pR pL pW a o s pl sgn sg) G := by
  have gr := I.gr
  have i0 := I.i0
  by_cases h1 : r0 = 1
  · exact sk_yes rfl gr i0 h1 (edB15 I q)
  refine sk_no rfl gr i0 h1 ?_
  by_cases h2 : r0 = 2
  · exact sk_yes rfl gr i0 h2 (edB16 I q)
  refine sk_no rfl gr i0 h2 ?_
  by_cases h3 : r0 = 3
  · exact sk_yes rfl gr i0 h3 (edB17 I q)
  refine sk_no rfl gr i0 h3 ?_
  by_cases h4 : r0 = 4
  · exact sk_yes rfl gr i0 h4 (edB18 I q)
  refine sk_no rfl gr i0 h4 ?_
  by_cases h5 : r0 = 5
  · exact sk_yes rfl gr i0 h5 (edB19 I q)
  refine sk_no rfl gr i0 h5 ?_
  by_cases h6 : r0 = 6
  · exact sk_yes rfl gr i0 h6 (edB20 I fun σ G l ls s1 s5 kk hr gl hm => sk_no s1 hr i0 (by omega) (sk_no s1 hr i0 (by omega) (sk_no s1 hr i0 (by omega) (sk_no s1 hr i0 (by omega) (sk_no s1 hr i0 (by omega) (sk_no s1 hr i0 (by omega) (sk_gt s1 hr i0 (by omega) (edJoin (A := A) s5 gl hm kk q))))))))
  refine sk_no rfl gr i0 h6 ?_
  by_cases h7 : r0 = 7
  · exact sk_yes rfl gr i0 h7 (edB21 I fun σ G l ls s1 s5 kk hr gl hm => sk_no s1 hr i0 (by omega) (sk_no s1 hr i0 (by omega) (sk_no s1 hr i0 (by omega) (sk_no s1 hr i0 (by omega) (sk_no s1 hr i0 (by omega) (sk_gt s1 hr i0 (by omega) (edJoin (A := A) s5 gl hm kk q)))))))
  refine sk_no rfl gr i0 h7 ?_
  by_cases h8 : r0 = 8
  · exact sk_yes rfl gr i0 h8 (edB22 I fun σ G l ls s1 s5 kk hr gl hm => sk_no s1 hr i0 (by omega) (sk_no s1 hr i0 (by omega) (sk_no s1 hr i0 (by omega) (sk_no s1 hr i0 (by omega) (sk_gt s1 hr i0 (by omega) (edJoin (A := A) s5 gl hm kk q))))))
  refine sk_no rfl gr i0 h8 ?_
  by_cases h9 : r0 = 9
  · exact sk_yes rfl gr i0 h9 (edB23 I fun σ G l ls s1 s5 kk hr gl hm => sk_no s1 hr i0 (by omega) (sk_no s1 hr i0 (by omega) (sk_no s1 hr i0 (by omega) (sk_gt s1 hr i0 (by omega) (edJoin (A := A) s5 gl hm kk q)))))
  refine sk_no rfl gr i0 h9 ?_
  by_cases h10 : r0 = 10
  · exact sk_yes rfl gr i0 h10 (edB24 I fun σ G l ls s1 s5 kk hr gl hm => sk_no s1 hr i0 (by omega) (sk_no s1 hr i0 (by omega) (sk_gt s1 hr i0 (by omega) (edJoin (A := A) s5 gl hm kk q))))
  refine sk_no rfl gr i0 h10 ?_
  by_cases h11 : r0 = 11
  · exact sk_yes rfl gr i0 h11 (edB25 I fun σ G l ls s1 s5 kk hr gl hm => sk_no s1 hr i0 (by omega) (sk_gt s1 hr i0 (by omega) (edJoin (A := A) s5 gl hm kk q)))
  refine sk_no rfl gr i0 h11 ?_
  by_cases h12 : r0 = 12
  · exact sk_yes rfl gr i0 h12 (edB26 I fun σ G l ls s1 s5 kk hr gl hm => sk_gt s1 hr i0 (by omega) (edJoin (A := A) s5 gl hm kk q))
  refine sk_no rfl gr i0 h12 ?_
  by_cases h13 : 12 < r0
  · exact sk_gy rfl gr i0 h13 (edB27 I h13 fun σ G l ls s1 s5 kk hr gl hm => edJoin (A := A) s5 gl hm kk q)
  refine sk_gt rfl gr i0 h13 ?_
  have hm := cut_msum 10 t
  have tl := I.tl
  exact edJoin (A := A) rfl I.gL (by omega) I.kH q
theorem eE0_it {σ : L2.St} (h : ∀ sgn sg, sgn = S sg → 0 < sg.length → sg.length ≤ 100 → u D (σ.set 2 (some (.str sgn))) H) : tSeq (eE0 A K) u D σ H :=
  h _ _ (lit _) (by decide) (by decide)
theorem odd_it (h : ∀ G a xs, Same H G → G a = some (.lst xs) → xs.length = 44 → txB 4401 xs = true → u D [some (.str (S t)), some (.ref p), some (.str sgn), some (.ref a), none, none, none, none, none, none, none, none, none] G) :
    tSeq (eE1 A K) (tSeq (eE2 A K) (tSeq (eE3 A K) (tSeq (eE4 A K) u))) D [some (.str (S t)), some (.ref p), some (.str sgn), none, none, none, none, none, none, none, none, none, none] H := by
  refine ⟨szN (n := 16) (Nat.le_refl _), fun n1 u1 => ?_⟩
  generalize hG1 : upd _ n1 _ = G1
  have e1 : Same H G1 := by rw [← hG1]; exact Same.new u1
  obtain ⟨xs1, g1, l1, t1⟩ : ∃ xs, G1 n1 = some (.lst xs) ∧ xs.length = 16 ∧ txB 4401 xs = true := ⟨_, by rw [← hG1, upd_same], rfl, by decide +kernel⟩
  clear hG1
  refine ⟨_, rfl, szN (n := 10) (Nat.le_refl _), fun n2 u2 => ⟨n1, n2, _, _, rfl, rfl, (Same.new u2) _ _ g1, upd_same, by rw [l1]; exact szN (n := 26) (Nat.le_refl _), fun n3 u3 => ?_⟩⟩
  generalize hG2 : upd _ n3 _ = G2
  have e2 : Same G1 G2 := by rw [← hG2]; exact Same.add (Same.new u2) u3
  obtain ⟨xs2, g2, l2, t2⟩ : ∃ xs, G2 n3 = some (.lst xs) ∧ xs.length = 26 ∧ txB 4401 xs = true := ⟨_, by rw [← hG2, upd_same], by rw [List.length_append, l1]; rfl, by rw [txB_append, t1]; decide +kernel⟩
  clear hG2 u3 u2
  refine ⟨_, rfl, szN (n := 11) (Nat.le_refl _), fun n2 u2 => ⟨n3, n2, _, _, rfl, rfl, (Same.new u2) _ _ g2, upd_same, by rw [l2]; exact szN (n := 37) (Nat.le_refl _), fun n4 u4 => ?_⟩⟩
  generalize hG3 : upd _ n4 _ = G3
  have e3 : Same G2 G3 := by rw [← hG3]; exact Same.add (Same.new u2) u4
  obtain ⟨xs3, g3, l3, t3⟩ : ∃ xs, G3 n4 = some (.lst xs) ∧ xs.length = 37 ∧ txB 4401 xs = true := ⟨_, by rw [← hG3, upd_same], by rw [List.length_append, l2]; rfl, by rw [txB_append, t2]; decide +kernel⟩
  clear hG3 u4 u2
  have h8 : ∀ x8 : Str, x8 = (⟨(List.replicate ((4400 : Int).toNat) ("8" : Str).cps).foldl (· ++ ·) #[]⟩ : Str) → x8.length = 4400 := fun x8 e => by
    rw [e]
    show ((List.replicate ((4400 : Int).toNat) ("8" : Str).cps).foldl (· ++ ·) #[]).size = 4400
    rw [rep_size]
    decide
  refine ⟨_, rfl, ?_⟩
  refine ⟨_, _, rfl, rfl, by decide, by decide, by decide, by decide, ?_⟩
  generalize hx8 : (⟨(List.replicate ((4400 : Int).toNat) ("8" : Str).cps).foldl (· ++ ·) #[]⟩ : Str) = x8
  have h8l := h8 x8 hx8.symm
  refine ⟨_, _, rfl, rfl, by decide, by decide, by decide, by decide, ?_⟩
  rw [hx8]
  have lm : ("-" : Str).length = 1 := by decide
  have la : ("@" : Str).length = 1 := by decide
  refine ⟨_, _, rfl, rfl, by rw [lm, h8l]; exact szN (n := 4401) (Nat.le_refl _), ?_⟩
  refine ⟨_, _, rfl, rfl, by decide, by decide, by decide, by decide, ?_⟩
  rw [hx8]
  refine ⟨_, _, rfl, rfl, by rw [la, h8l]; exact szN (n := 4401) (Nat.le_refl _), szN (n := 7) (Nat.le_refl _), fun n2 u2 => ⟨n4, n2, _, _, rfl, rfl, (Same.new u2) _ _ g3, upd_same, by rw [l3]; exact szN (n := 44) (Nat.le_refl _), fun n5 u5 => ?_⟩⟩
  refine h _ n5 _ ((e1.trans e2).trans (e3.trans (Same.add (Same.new u2) u5))) upd_same (by rw [List.length_append, l3]; rfl) ?_
  rw [txB_append, t3, Bool.true_and]
  refine txB_cons (by decide) (txB_cons (by decide) (txB_cons (by decide) (txB_cons (by decide) (txB_cons (by rw [h8l]; decide) (txB_cons (by rw [len_app, lm, h8l]; decide) (txB_cons (by rw [len_app, la, h8l]; decide) rfl))))))
theorem rows_it (h : ∀ G a xs, Same H G → G a = some (.lst xs) → xs.length = 23 → txB 20 xs = true → u D [some (.str (S t)), some (.ref p), some (.str sgn), some (.ref pO), some (.ref a), none, none, none, none, none, none, none, none] G) :
    tSeq (eE5 A K) (tSeq (eE6 A K) (tSeq (eE7 A K) u)) D [some (.str (S t)), some (.ref p), some (.str sgn), some (.ref pO), none, none, none, none, none, none, none, none, none] H := by
  refine ⟨szN (n := 8) (Nat.le_refl _), fun n1 u1 => ?_⟩
  generalize hG1 : upd _ n1 _ = G1
  have e1 : Same H G1 := by rw [← hG1]; exact Same.new u1
  obtain ⟨xs1, g1, l1, t1⟩ : ∃ xs, G1 n1 = some (.lst xs) ∧ xs.length = 8 ∧ txB 20 xs = true := ⟨_, by rw [← hG1, upd_same], rfl, by decide +kernel⟩
  clear hG1
  refine ⟨_, rfl, szN (n := 9) (Nat.le_refl _), fun n2 u2 => ⟨n1, n2, _, _, rfl, rfl, (Same.new u2) _ _ g1, upd_same, by rw [l1]; exact szN (n := 17) (Nat.le_refl _), fun n3 u3 => ?_⟩⟩
  generalize hG2 : upd _ n3 _ = G2
  have e2 : Same G1 G2 := by rw [← hG2]; exact Same.add (Same.new u2) u3
  obtain ⟨xs2, g2, l2, t2⟩ : ∃ xs, G2 n3 = some (.lst xs) ∧ xs.length = 17 ∧ txB 20 xs = true := ⟨_, by rw [← hG2, upd_same], by rw [List.length_append, l1]; rfl, by rw [txB_append, t1]; decide +kernel⟩
  clear hG2 u3 u2
  refine ⟨_, rfl, szN (n := 6) (Nat.le_refl _), fun n2 u2 => ⟨n3, n2, _, _, rfl, rfl, (Same.new u2) _ _ g2, upd_same, by rw [l2]; exact szN (n := 23) (Nat.le_refl _), fun n4 u4 => ?_⟩⟩
  refine h _ n4 _ ((e1.trans e2).trans (Same.add (Same.new u2) u4)) upd_same (by rw [List.length_append, l2]; rfl) (by rw [txB_append, t2]; decide +kernel)
theorem len__law_edited (h : sp__law_edited A K vs H Q E) : vs.length = 2 := by obtain ⟨_, _, _, rfl, _⟩ := h; rfl
theorem pure__law_edited (h : sp__law_edited A K vs H Q E) : t__law_edited A K w { nx := fun _ H' => Q .non H', rt := Q } (start N__law_edited vs) H := by
  obtain ⟨t, p, rs, rfl, tl, hr, dg, q⟩ := h
  obtain ⟨r0, i0, d0⟩ := Paired.atR dg (i := 0) (y := 22) rfl
  obtain ⟨r1, i1, d1⟩ := Paired.atR dg (i := 1) (y := 100003) rfl
  obtain ⟨r2, i2, d2⟩ := Paired.atR dg (i := 2) (y := 100019) rfl
  obtain ⟨r3, i3, d3⟩ := Paired.atR dg (i := 3) (y := 44) rfl
  obtain ⟨r4, i4, d4⟩ := Paired.atR dg (i := 4) (y := 23) rfl
  rw [edit_eq]
  refine eE0_it fun sgn sg es sg0 sg1 => ?_
  refine odd_it fun G1 pO xO k1 gO lO tO => ?_
  refine rows_it fun G2 pR xR k2 gR lR tR => ?_
  have e10 : ("\n" : Str) = S [10] := lit _
  refine ⟨_, rfl, ⟨_, rfl⟩, _, _, rfl, rfl, by decide, by rw [S_len]; exact szN (n := 200002) (by omega), fun pL uL => ?_⟩
  rw [e10, split1 t (by decide), sV_map]
  have nL : H pL = none := (k1.trans k2).free uL
  have k3 := Same.new (o := .lst (sV (cut 10 t))) uL
  have gL : upd G2 pL (.lst (sV (cut 10 t))) pL = some (.lst (sV (cut 10 t))) := upd_same
  generalize upd G2 pL (.lst (sV (cut 10 t))) = G3 at k3 gL
  have kH := (k1.trans k2).trans k3
  have gr := smL kH hr
  have lp : 0 < (cut 10 t).length := List.length_pos_iff.mpr (cut_ne 10 t)
  have lp' : (0 : Int) < (((sV (cut 10 t)).length : Nat) : Int) := by rw [sV_len]; omega
  refine ⟨_, rfl, p, _, _, _, rfl, rfl, gr, atT (j := 1) rfl (iV_get i1), _, rfl, _, rfl, pL, _, rfl, .inl (.of gL), _, _, rfl, rfl, lp', ?_⟩
  refine ⟨_, rfl, p, _, _, _, rfl, rfl, gr, atT (j := 2) rfl (iV_get i2), _, rfl, _, rfl, pL, _, rfl, .inl (.of gL), _, _, rfl, rfl, lp', ?_⟩
  refine ⟨_, rfl, p, _, _, _, rfl, rfl, gr, atT (j := 1) rfl (iV_get i1), _, rfl, _, rfl, _, rfl, szT (n := 200000) tl, _, _, rfl, rfl, _, _, rfl, rfl, by omega, ?_⟩
  have sgl : 0 < (sgn.length : Int) := by rw [es, S_len]; omega
  obtain ⟨c, ec⟩ := at_T (t := sg) (i := r2 % (sgn.length : Int)) (Int.emod_nonneg _ (by omega)) (by rw [es, S_len]; exact Int.emod_lt_of_pos _ (by omega))
  refine ⟨_, rfl, _, rfl, p, _, _, _, rfl, rfl, gr, atT (j := 2) rfl (iV_get i2), _, rfl, _, rfl, _, rfl, by rw [es]; exact szT (n := 100) sg1, _, _, rfl, rfl, sgl, sgn, _, c, rfl, rfl, by rw [es]; exact szT (n := 100) sg1, ?_, ?_⟩
  · rw [← es] at ec
    exact ec
  have ba : 0 ≤ r1 % (((sV (cut 10 t)).length : Nat) : Int) ∧ r1 % (((sV (cut 10 t)).length : Nat) : Int) < (cut 10 t).length := by rw [sV_len]; exact ⟨Int.emod_nonneg _ (by omega), Int.emod_lt_of_pos _ (by omega)⟩
  have bo : 0 ≤ r2 % (((sV (cut 10 t)).length : Nat) : Int) ∧ r2 % (((sV (cut 10 t)).length : Nat) : Int) < (cut 10 t).length := by rw [sV_len]; exact ⟨Int.emod_nonneg _ (by omega), Int.emod_lt_of_pos _ (by omega)⟩
  have bs : 0 ≤ r1 % (((S t).length : Nat) + 1 : Int) ∧ r1 % (((S t).length : Nat) + 1 : Int) ≤ t.length := by
    have h1 := Int.emod_nonneg r1 (b := ((S t).length : Nat) + 1) (by omega)
    have h2 := Int.emod_lt_of_pos r1 (b := ((S t).length : Nat) + 1) (by omega)
    have h3 := S_len t
    exact ⟨h1, by omega⟩
  have hal : (r1 % (((sV (cut 10 t)).length : Nat) : Int)).toNat < (cut 10 t).length := by omega
  have ia := List.getElem?_eq_getElem hal
  generalize (cut 10 t)[(r1 % (((sV (cut 10 t)).length : Nat) : Int)).toNat] = la at ia
  have hla := msum_mem (List.mem_of_getElem? ia)
  have hcm := cut_msum 10 t
  refine ⟨_, rfl, _, rfl, pL, _, _, _, rfl, rfl, .of gL, atT (j := (r1 % (((sV (cut 10 t)).length : Nat) : Int)).toNat) (by omega) (sV_get ia), ⟨_, rfl⟩, _, _, rfl, rfl, by decide, by rw [S_len]; exact szN (n := 200010) (by omega), fun pW uW => ?_⟩
  rw [e32, split1 la (by decide), sV_map]
  have k4 := Same.new (o := .lst (sV (cut 32 la))) uW
  have gW : upd G3 pW (.lst (sV (cut 32 la))) pW = some (.lst (sV (cut 32 la))) := upd_same
  generalize upd G3 pW (.lst (sV (cut 32 la))) = G4 at k4 gW
  have lw : 0 < (cut 32 la).length := List.length_pos_iff.mpr (cut_ne 32 la)
  have lw' : (0 : Int) < (((sV (cut 32 la)).length : Nat) : Int) := by rw [sV_len]; omega
  have bp : 0 ≤ r2 % (((sV (cut 32 la)).length : Nat) : Int) ∧ r2 % (((sV (cut 32 la)).length : Nat) : Int) < (cut 32 la).length := by rw [sV_len]; exact ⟨Int.emod_nonneg _ (by omega), Int.emod_lt_of_pos _ (by omega)⟩
  refine ⟨_, rfl, p, _, _, _, rfl, rfl, smL k4 gr, atT (j := 2) rfl (iV_get i2), _, rfl, _, rfl, pW, _, rfl, .inl (.of gW), _, _, rfl, rfl, lw', ?_⟩
  exact edTail (sg := [c]) ⟨kH.trans k4, tl, smL k4 gr, i0, i1, i2, i3, i4, d0, d3, d4, ⟨xO, k4 _ _ (k3 _ _ (k2 _ _ gO)), lO, tO⟩, ⟨xR, k4 _ _ (k3 _ _ gR), lR, tR⟩, k4 _ _ gL, nL, ba, bo, bs, Nat.le_refl _, ia, gW, bp, hr⟩ q
end
end Qb

/-! Kq7 -/
set_option Elab.async false
set_option linter.all false
set_option maxRecDepth 100000
set_option maxHeartbeats 2000000
/-! Reading: the law itself. -/
namespace Qb
open PySem PySem.Spec PyProof.Rows L2
section
variable {A : Ad} {K : Frag} {w : World} {mg : Str → Option Value} {vs : List V} {H : Hp} {Q : VK} {E : XK}
theorem len_law (h : sp_law A K vs H Q E) : vs.length = 1 := by obtain ⟨_, _, rfl, _⟩ := h; rfl
theorem pure_law (h : sp_law A K vs H Q E) : t_law A K w { nx := fun _ H' => Q .non H', rt := Q } (start N_law vs) H := by
  obtain ⟨p, ns, rfl, hq, hn, q⟩ := h
  refine ⟨_, rfl, p, ns, rfl, hq, hn, fun v D H1 e1 hd hv hl => ?_⟩
  have hd0 := hd
  obtain ⟨a, v1, v2, v3, v4, v5, rfl, sq, d1, ⟨a2, us2, rfl, s2, p2⟩, d3, d4, ⟨a5, us5, rfl, s5, p5⟩⟩ := hd
  have eb : big = 1000000 := rfl
  -- the turned data
  refine ⟨_, rfl, a, _, 0, _, rfl, rfl, sq, atT (j := 0) rfl rfl, ?_⟩
  refine ⟨_, rfl, a, _, 1, _, rfl, rfl, sq, atT (j := 1) rfl rfl, a2, us2, rfl, s2, fun q1 u1 => ⟨q1, _, rfl, .inl ⟨.of upd_same, fun t1 w1 => ?_⟩⟩⟩
  have k1 := Same.new (o := .lst us2.reverse) u1
  have k2 := Same.add (o := .tup us2.reverse) k1 w1
  refine ⟨_, rfl, a, _, 3, _, rfl, rfl, smT k2 sq, atT (j := 3) rfl rfl, ?_⟩
  refine ⟨_, rfl, a, _, 2, _, rfl, rfl, smT k2 sq, atT (j := 2) rfl rfl, ?_⟩
  refine ⟨_, rfl, a, _, 4, _, rfl, rfl, smT k2 sq, atT (j := 4) rfl rfl, a5, us5, rfl, smT k2 s5, fun q2 u2 => ⟨q2, _, rfl, .inl ⟨.of upd_same, fun t2 w2 => ?_⟩⟩⟩
  have k3 := Same.new (o := .lst us5.reverse) u2
  have k4 := Same.add (o := .tup us5.reverse) k3 w2
  refine ⟨szN (n := 5) (Nat.le_refl _), fun t3 w3 => ?_⟩
  have k5 := Same.add (o := .tup [v1, .ref t1, v4, v3, .ref t2]) (k2.trans k4) w3
  have k45 := Same.add (o := .tup [v1, .ref t1, v4, v3, .ref t2]) k4 w3
  have hd1 := DT.mono (Tm.of k5) hd0
  have hd2 : DT K (upd (upd (upd (upd (upd H1 q1 (.lst us2.reverse)) t1 (.tup us2.reverse)) q2 (.lst us5.reverse)) t2 (.tup us5.reverse)) t3 (.tup [v1, .ref t1, v4, v3, .ref t2])) (.ref t3) (turned D) := by
    refine ⟨t3, v1, .ref t1, v4, v3, .ref t2, rfl, .of upd_same, d1.mono (Tm.of k5), ⟨t1, us2.reverse, rfl, .of (k45 _ _ upd_same), ?_⟩, d4.mono (Tm.of k5), d3.mono (Tm.of k5), ⟨t2, us5.reverse, rfl, .of ((Same.new w3) _ _ upd_same), ?_⟩⟩
    · exact Paired.mapP (Paired.rev p2) fun _ _ z => FT.mono (Tm.of k5) z
    · exact Paired.mapP (Paired.rev p5) fun _ _ z => OT.mono (Tm.of k5) z
  have e5 := e1.trans k5
  generalize upd (upd (upd (upd (upd H1 q1 (.lst us2.reverse)) t1 (.tup us2.reverse)) q2 (.lst us5.reverse)) t2 (.tup us5.reverse)) t3 (.tup [v1, .ref t1, v4, v3, .ref t2]) = G at e5 hd1 hd2
  have vt := turned_valid hv
  have lt : (render (turned D)).length ≤ big := by rw [turned_len]; omega
  have lb : (render D).length ≤ big := by omega
  -- the text
  refine ⟨_, rfl, _, D, rfl, hd1, hv, lb, fun H2 e2 => ?_⟩
  refine ⟨_, rfl, _, rfl, _, D, rfl, DT.mono (Tm.of e2) hd1, hv, lb, fun H3 e3 => ⟨true, rfl, ?_⟩⟩
  refine ⟨_, rfl, _, turned D, rfl, DT.mono (Tm.of (e2.trans e3)) hd2, vt, lt, fun H4 e4 => ⟨_, rfl, _, turned D, rfl, DT.mono (Tm.of ((e2.trans e3).trans e4)) hd2, vt, lt, fun H5 e6 => ⟨true, rfl, ?_⟩⟩⟩
  have k6 := (e2.trans e3).trans (e4.trans e6)
  have hd3 := DT.mono (Tm.of k6) hd1
  have kH := e5.trans k6
  refine ⟨szN (n := 5) (Nat.le_refl _), fun z hz => ?_⟩
  have k7 := Same.new (o := .lst [.int 22, .int 100003, .int 100019, .int 44, .int 23]) hz
  have gz : upd H5 z (.lst [.int 22, .int 100003, .int 100019, .int 44, .int 23]) z = some (.lst (iV editSizes)) := upd_same
  generalize upd H5 z (.lst [.int 22, .int 100003, .int 100019, .int 44, .int 23]) = G5 at k7 gz
  refine ⟨2, rfl, by decide, by decide, ?_⟩
  refine for_it walk_range (fun i σ H' => Same G5 H' ∧ ∃ x5, σ = [some (.ref p), some (.ref a), some (.ref t3), some (.str (S (render D))), some (.ref z), x5]) ⟨Same.refl _, _, rfl⟩ (fun _ _ _ _ _ => trivial) ?_ ?_
  · rintro i x σ H6x H6 hi ⟨k8, x5, rfl⟩ ⟨rfl, rfl⟩
    have hi2 : i < 2 := hi
    refine ⟨_, rfl, _, rfl, _, rfl, _, _, rfl, rfl, p, ns, _, rfl, smL ((kH.trans k7).trans k8) hq, hn, by omega, by omega, fun c => ?_⟩
    refine ⟨_, rfl, c, z, editSizes, rfl, .of (k8 _ _ gz), by decide, by decide, fun r rs H7 e7 gr dg => ?_⟩
    refine ⟨render D, r, rs, rfl, hl, .of gr, dg, fun t' H8 e8 ht' => ?_⟩
    refine ⟨t', rfl, ht', fun H9 e9 => ⟨true, rfl, ?_⟩⟩
    exact ⟨(k8.trans e7).trans (e8.trans e9), _, rfl⟩
  · rintro σ H6 ⟨k8, x5, rfl⟩
    exact ⟨_, rfl, _, rfl, _, D, rfl, DT.mono (Tm.of (k7.trans k8)) hd3, hv, lb, fun H7 e7 => q H7⟩
end
end Qb

/-! Ktry -/
set_option Elab.async false
set_option linter.all false
set_option maxRecDepth 100000
set_option maxHeartbeats 2000000
/-! The two defs that catch the program's error. -/
namespace Qb
open PySem PySem.Spec PyProof.Rows L2
/-- f(x = ..) alone binds the only parameter -/
def KB1 (K : Frag) (fd : FuncData) (x : Str) : Prop := ∀ (s : Shared) (u : Value), K.In s.heap → BindsTo s fd ⟨[], [(x, u)]⟩ [(x, u)]
structure CalK (P : Program) (w : World) (K : Frag) (mg : Str → Option Value) (base : Heap) (CX : CXT) (k : Nat) (x p : Str) (sp : Sp) : Prop where
  ex : ∃ f fd, FnOk P w K mg base CX k f fd [p] sp ∧ mg x = some (.ref f) ∧ PySem.W.keepIn K (.ref f) = true ∧ KB1 K fd p
section
variable {X : Cx} {A : Ad} {CX : CXT} {k j : Nat} {x q : Str} {ps : List Str} {sp : Sp} {E : L2.St → XK} {e : Expr} {es : List Expr} {t : TA} {te : TE} {p pos kpos : Pos}
theorem pe_calS (c : Cal X.prog X.w X.K X.mg X.base CX k x ps sp) (hr : Room j X.A) (hx : ∀ σ, PassesAt CX X σ (E σ)) (ha : PA X (e :: es) t) (hj : k ≤ j := by decide) (hg : Gl X x := by rfl) (hdb : (x == ("__debug__" : Str)) = false := by decide)
    (he : starEach (e :: es) X.env = (false, eval e X.env) :: starEach es X.env := by rfl) (hpq : (backTo pos (starEach es X.env)).any (·.1) = false := by rfl) : PE X (.Call (.Name x p) (e :: es) [] pos) (tCallS sp E t) := by
  obtain ⟨f, fd, F, hm, hk, hb⟩ := c.ex
  exact pe_callS F (hr.mono hj) hg hm hk hb hx ha hdb he hpq
/-- f(x = e) where errors are caught -/
theorem pe_calKS (c : CalK X.prog X.w X.K X.mg X.base CX k x q sp) (hr : Room j X.A) (hx : ∀ σ, PassesAt CX X σ (E σ)) (ha : PE X e te) (hj : k ≤ j := by decide) (hg : Gl X x := by rfl) (hdb : (x == ("__debug__" : Str)) = false := by decide)
    (hall : (backToKw pos (keywordEach [⟨some q, e, kpos⟩] X.env)).all (·.1.isSome) = true := by rfl) (hks : (backToKw pos (keywordEach [⟨some q, e, kpos⟩] X.env)).filterMap (·.1) = [q] := by rfl)
    (hpq : ((backTo pos (starEach [] X.env)).any (·.1) || (backToKw pos (keywordEach [⟨some q, e, kpos⟩] X.env)).any (·.1.isNone)) = false := by rfl) :
    PE X (.Call (.Name x p) [] [⟨some q, e, kpos⟩] pos) (tCallS sp E (tCons te tNil)) := by
  obtain ⟨f, fd, F, hm, hk, hb⟩ := c.ex
  refine ⟨fun pins s σ H Q J0 hyp => wpAny_Call_Name_kw (ld_glob J0 hg hm ?_ hdb)⟩
  refine PySem.W.callWith_KW0 (h₀ := X.base) J0.ok.mod.kin hk hall ?_ hpq
  have hkw : PK X [⟨some q, e, kpos⟩] (tCons te tNil) := pk_cons ha pk_nil
  refine thn (hkw.run pos pins s σ H _ J0 hyp) fun ws s2 ⟨zs, H2, I2, rz, q2⟩ => ⟨I2.kIn, ?_⟩
  rw [hks]
  have hl : zs.length = 1 := F.len _ _ _ _ q2
  match zs, ws, rz, hl, q2 with
  | [z], _, .cons (b := u) rv .nil, _, q2 =>
    have r2 : Vals [z] [u] := .cons rv .nil
    show wpAny _ _ (call (.ref f) [] [(q, u)]) _ _ _
    refine wpAny_call (codeAny_mono (F.run X.A X.stack s2 H2 ⟨[], [(q, u)]⟩ [u] [z] Q (E σ) (hr.mono hj) I2.env0 (hb s2 u I2.kIn) r2 q2) fun r s' hq => ?_)
    cases r with
    | error e => exact hx σ pins H2 s2 e s' I2 hq
    | ok fl =>
      cases fl with
      | ret u => exact I2.after hq
      | next => exact False.elim hq
      | brk => exact False.elim hq
      | cont => exact False.elim hq
end
abbrev N__law_own_text : List Str := ["_law_text_here", "_law_picture"]
abbrev N__law_back : List Str := ["_law_text_here", "_law_due", "_law_picture", "_law_other"]
abbrev W0 : WX := fun _ _ _ _ => False
def t__law_own_text (A : Ad) (K : Frag) (w : World) : TS :=
  tSeq (fun D σ H => (tAsg (tCallS (sp_read_image A K) (WE (wOnly K (.ref A.B) (fun _ _ _ => tRet (tC (.bl true))) W0 D)) (tCons (tVar 0) tNil)) (gName 1)) D σ H)
  (tRet (tAndV (tCall (sp__law_sound A K) [] E0 (tCons (tVar 1) tNil)) (tOp rEq (tCall (sp_write_image A K) [] E0 (tCons (tVar 1) tNil)) (tVar 0))))
def t__law_back (A : Ad) (K : Frag) (w : World) : TS :=
  tSeq (fun D σ H => (tAsg (tCallS (sp_read_image A K) (WE (wOnly K (.ref A.B) (fun _ _ _ => tRet (tC (.bl false))) W0 D)) (tCons (tVar 0) tNil)) (gName 2)) D σ H)
  (tSeq (tIfS (tOr (tNot (tB (tCall (sp__law_sound A K) [] E0 (tCons (tVar 2) tNil)))) (tNot (tB (tCall (sp__law_same_picture A K) [] E0 (tCons (tVar 2) (tCons (tVar 1) tNil)))))) (tRet (tC (.bl false))) tNext)
  (tSeq (tAsg (tMake A.C (spPic A K) [] E0 (tCons (tOp (rIxT K) (tVar 1) (tC (.int 0))) (tCons (tOp (rIxT K) (tVar 1) (tC (.int 1))) (tCons (tOp (rIxT K) (tVar 1) (tC (.int 2))) (tCons (tOp (rIxT K) (tVar 1) (tC (.int 3))) (tCons (tOp (rIxT K) (tVar 1) (tC (.int 4))) tNil)))))) (gName 3))
  (tRet (tAndV (tOp rIsB (tOp (rEqG (DIns A.C (twoP A K))) (tVar 2) (tVar 3)) (tC (.bl true))) (tAndV (tOp rIsB (tOp (rEqG (DIns A.C (twoP A K))) (tVar 3) (tVar 2)) (tC (.bl true))) (tOp rEq (tCall (sp_write_image A K) [] E0 (tCons (tVar 2) tNil)) (tVar 0)))))))
theorem sc__law_own_text : FnScope N__law_own_text ["_law_text_here"] (defScope (top 57)) := ⟨rfl, rfl, rfl, by decide +kernel, rfl, by decide +kernel, by decide +kernel⟩
theorem ok__law_own_text {P : Program} {w : World} {K : Frag} {mg : Str → Option Value} {base : Heap} {A : Ad} {f : Addr} {fd : FuncData} (F : Fun K "_law_own_text" "_law_own_text" (top 57) f fd) (T : Txt K mg w A)
    (c_read_image : Cal P w K mg base (L2.CX P w) 8 "read_image" ["text"] (sp_read_image A K))
    (c__law_sound : Cal P w K mg base CX0 3 "_law_sound" ["_law_picture"] (sp__law_sound A K))
    (c_write_image : Cal P w K mg base CX0 4 "write_image" ["picture"] (sp_write_image A K))
    (len : ∀ vs H Q E, sp__law_own_text A K vs H Q E → vs.length = 1)
    (pure : ∀ vs H Q E, sp__law_own_text A K vs H Q E → t__law_own_text A K w { nx := fun _ H' => Q .non H', rt := Q } (start N__law_own_text vs) H) : FnOk P w K mg base CX0 9 f fd ["_law_text_here"] (sp__law_own_text A K) := by
  refine F.ok sc__law_own_text (fun vs H Q E h => len vs H Q E h) (fun cdv Ar outer s H vs Q E hr h => ⟨t__law_own_text A K w, ?_, pure vs H Q E h⟩)
  exact pss_cons (ps_try_only (tb := fun W => tAsg (tCallS (sp_read_image A K) (WE W) (tCons (tVar 0) tNil)) (gName 1)) (ts := fun _ _ _ => tRet (tC (.bl true))) (Wout := W0) rfl rfl ⟨rfl, by decide, .inl T.m_BAD⟩ takes0
      (fun W pn xe tk _ => pss_one (ps_set (i := 1) sc__law_own_text.nd rfl (Or.inl rfl) (pe_calS c_read_image hr (fun σ => passAt tk σ) (pa_cons (pv 0) pa_nil))))
      (fun a oe cls d pn _ _ => pss_one (ps_ret pe_bl)))
    (pss_one (ps_ret (pe_and (pe_cal c__law_sound hr (pa_cons (pv 1) pa_nil)) (pe_one (pe_cmpR op_eq (pe_cal c_write_image hr (pa_cons (pv 1) pa_nil)) (pv 0) (nomark _))))))
theorem sc__law_back : FnScope N__law_back ["_law_text_here", "_law_due"] (defScope (top 56)) := ⟨rfl, rfl, rfl, by decide +kernel, rfl, by decide +kernel, by decide +kernel⟩
theorem ok__law_back {P : Program} {w : World} {K : Frag} {mg : Str → Option Value} {base : Heap} {A : Ad} {f : Addr} {fd : FuncData} (F : Fun K "_law_back" "_law_back" (top 56) f fd) (T : Txt K mg w A)
    (c_read_image : CalK P w K mg base (L2.CX P w) 8 "read_image" "text" (sp_read_image A K))
    (c__law_sound : Cal P w K mg base CX0 3 "_law_sound" ["_law_picture"] (sp__law_sound A K))
    (c__law_same_picture : Cal P w K mg base CX0 1 "_law_same_picture" ["_law_picture", "_law_due"] (sp__law_same_picture A K))
    (c_write_image : Cal P w K mg base CX0 4 "write_image" ["picture"] (sp_write_image A K))
    (c_Pic : CalI P w K mg base 1 A.fP ["self", "statics", "frames", "watched", "parted", "objects"] (spPic A K))
    (c_Peq : CalI P w K mg base 1 A.fE ["self", "other"] (spPeq A K))
    (len : ∀ vs H Q E, sp__law_back A K vs H Q E → vs.length = 2)
    (pure : ∀ vs H Q E, sp__law_back A K vs H Q E → t__law_back A K w { nx := fun _ H' => Q .non H', rt := Q } (start N__law_back vs) H) : FnOk P w K mg base CX0 9 f fd ["_law_text_here", "_law_due"] (sp__law_back A K) := by
  refine F.ok sc__law_back (fun vs H Q E h => len vs H Q E h) (fun cdv Ar outer s H vs Q E hr h => ⟨t__law_back A K w, ?_, pure vs H Q E h⟩)
  obtain ⟨fq, Fq, bq⟩ := c_Peq.ex
  exact pss_cons (ps_try_only (tb := fun W => tAsg (tCallS (sp_read_image A K) (WE W) (tCons (tVar 0) tNil)) (gName 2)) (ts := fun _ _ _ => tRet (tC (.bl false))) (Wout := W0) rfl rfl ⟨rfl, by decide, .inl T.m_BAD⟩ takes0
      (fun W pn xe tk _ => pss_one (ps_set (i := 2) sc__law_back.nd rfl (Or.inl rfl) (pe_calKS c_read_image hr (fun σ => passAt tk σ) (pv 0))))
      (fun a oe cls d pn _ _ => pss_one (ps_ret pe_bl)))
    (pss_cons (ps_if (PW.pt (pw_or (pt_not (pt_val (pe_cal c__law_sound hr (pa_cons (pv 2) pa_nil)))) (pw_or1 (pt_not (pt_val (pe_cal c__law_same_picture hr (pa_cons (pv 2) (pa_cons (pv 1) pa_nil)))))))) (pss_one (ps_ret pe_bl)) pss_nil)
    (pss_cons (ps_set (i := 3) sc__law_back.nd rfl (Or.inl rfl) (T.mkPic c_Pic hr (pa_cons (pe_ix ix_tup (pv 1) pe_int (fun _ _ => rfl)) (pa_cons (pe_ix ix_tup (pv 1) pe_int (fun _ _ => rfl)) (pa_cons (pe_ix ix_tup (pv 1) pe_int (fun _ _ => rfl)) (pa_cons (pe_ix ix_tup (pv 1) pe_int (fun _ _ => rfl)) (pa_cons (pe_ix ix_tup (pv 1) pe_int (fun _ _ => rfl)) pa_nil)))))))
    (pss_one (ps_ret (pe_and (pe_cmpR op_isBl (pe_cmpR (op_eqG (rcG_ins Fq T.eqm.1 T.eqm.2 bq pass0) (hr.mono (by decide))) (pv 2) (pv 3) (nomark _)) pe_bl (nomark _))
      (pe_and (pe_cmpR op_isBl (pe_cmpR (op_eqG (rcG_ins Fq T.eqm.1 T.eqm.2 bq pass0) (hr.mono (by decide))) (pv 3) (pv 2) (nomark _)) pe_bl (nomark _))
      (pe_one (pe_cmpR op_eq (pe_cal c_write_image hr (pa_cons (pv 2) pa_nil)) (pv 0) (nomark _)))))))))
end Qb

/-! Kq8 -/
set_option Elab.async false
set_option linter.all false
set_option maxRecDepth 100000
set_option maxHeartbeats 2000000
/-! Readings: the two defs that catch the program's error. -/
namespace Qb
open PySem PySem.Spec PyProof.Rows L2
theorem render_inj {D D' : Pic} (v : Valid D) (v' : Valid D') (h : render D = render D') : items D = items D' := by
  have h1 := parse_render v
  rw [h, parse_render v'] at h1
  exact (Option.some.inj h1).symm
section
variable {A : Ad} {K : Frag} {w : World} {mg : Str → Option Value} {vs : List V} {H : Hp} {Q : VK} {E : XK}
theorem sml_of {D : Pic} (h : (render D).length ≤ big) : Sml D := by
  obtain ⟨z0, z1, z2, z3, z4⟩ := small_of h
  exact ⟨by omega, by omega, z1, z2, by omega, z3, z4⟩
theorem PicAt.same {H' : Hp} {p : Addr} {D : Pic} (e : Same H H') (h : PicAt A K H p D) : PicAt A K H' p D := by
  obtain ⟨dx, v1, v2, v3, v4, v5, hp, p1, p2, p3, p4, p5⟩ := h
  exact ⟨dx, v1, v2, v3, v4, v5, e _ _ hp, p1.mono (Tm.of e), p2.mono (Tm.of e) fun _ _ z => FT.mono (Tm.of e) z, p3.mono (Tm.of e), p4.mono (Tm.of e), p5.mono (Tm.of e) fun _ _ z => OT.mono (Tm.of e) z⟩
theorem len__law_own_text (h : sp__law_own_text A K vs H Q E) : vs.length = 1 := by obtain ⟨_, rfl, _⟩ := h; rfl
theorem pure__law_own_text (T : Txt K mg w A) (h : sp__law_own_text A K vs H Q E) : t__law_own_text A K w { nx := fun _ H' => Q .non H', rt := Q } (start N__law_own_text vs) H := by
  obtain ⟨t, rfl, hl, q⟩ := h
  refine ⟨_, rfl, t, rfl, hl, fun hn d H' e => ⟨true, T.bE, fun _ a _ => q _ e, fun z => nomatch z⟩, fun D hv hp p H1 e1 pic => ?_⟩
  obtain ⟨D', hv', hi, ht⟩ := parse_some hp
  have hr : t = render D := by
    rw [ht]
    unfold render
    rw [hi]
  subst hr
  have sm := sml_of hl
  refine ⟨_, rfl, p, D, rfl, pic, sm, fun H2 e2 => ⟨true, rfl, ?_⟩⟩
  rw [if_pos rfl]
  refine ⟨_, rfl, p, D, rfl, pic.same e2, hv, hl, fun H3 e3 => ⟨_, rfl, rfl, ?_⟩⟩
  rw [decide_eq_true rfl]
  exact q _ ((e1.trans e2).trans e3)
theorem len__law_back (h : sp__law_back A K vs H Q E) : vs.length = 2 := by obtain ⟨_, _, rfl, _⟩ := h; rfl
theorem items_inj {D D' : Pic} (h : items D = items D') : D = D' := by
  have h1 := asm_items D
  rw [h, asm_items D'] at h1
  exact h1.symm
theorem pure__law_back (T : Txt K mg w A) (h : sp__law_back A K vs H Q E) : t__law_back A K w { nx := fun _ H' => Q .non H', rt := Q } (start N__law_back vs) H := by
  obtain ⟨v, D, rfl, hd, hv, hl, q⟩ := h
  have sm := sml_of hl
  refine ⟨_, rfl, render D, rfl, hl, fun hn => ?_, fun D2 hv2 hp p H1 e1 pic => ?_⟩
  · rw [parse_render hv] at hn
    cases hn
  rw [parse_render hv] at hp
  have hD := items_inj (Option.some.inj hp)
  subst hD
  refine ⟨_, rfl, p, D, rfl, pic, sm, fun H2 e2 => ⟨true, rfl, ?_⟩⟩
  have e12 := e1.trans e2
  refine ⟨_, rfl, _, rfl, p, v, D, rfl, pic.same e2, DT.mono (Tm.of e12) hd, hv, true, rfl, ?_⟩
  obtain ⟨b, u1, u2, u3, u4, u5, rfl, hb, r1, r2, r3, r4, r5⟩ := DT.mono (Tm.of e12) hd
  refine ⟨_, rfl, b, _, 0, _, rfl, rfl, hb, atT (j := 0) rfl rfl, _, rfl, b, _, 1, _, rfl, rfl, hb, atT (j := 1) rfl rfl, _, rfl, b, _, 2, _, rfl, rfl, hb, atT (j := 2) rfl rfl, _, rfl, b, _, 3, _, rfl, rfl, hb, atT (j := 3) rfl rfl, _, rfl, b, _, 4, _, rfl, rfl, hb, atT (j := 4) rfl rfl, fun x dx hx hdx hne => ?_⟩
  have ee : Same H2 (upd (upd H2 dx (.own x)) x (.ins A.C dx [])) := Same.add (Same.new hdx) (by rw [upd_ne hne.symm]; exact hx)
  obtain ⟨a1, rfl, w1⟩ := r1
  obtain ⟨a2, us2, rfl, w2, p2⟩ := r2
  obtain ⟨a3, rfl, w3⟩ := r3
  obtain ⟨a4, rfl, w4⟩ := r4
  obtain ⟨a5, us5, rfl, w5, p5⟩ := r5
  refine ⟨x, dx, a1, a2, a3, a4, a5, us2, us5, D, rfl, upd_same, .inr (smT ee w1), ⟨.inr (smT ee w2), Paired.mapP p2 fun _ _ z => FT.mono (Tm.of ee) z⟩, .inr (smT ee w3), .inr (smT ee w4), ⟨.inr (smT ee w5), Paired.mapP p5 fun _ _ z => OT.mono (Tm.of ee) z⟩, sm, fun H3 near pic2 => ⟨rfl, ?_⟩⟩
  have e3 := Same.made hx hdx near
  have pic1 := (pic.same e2).same e3
  have dins : ∀ {a c : Addr} {G : Hp}, PicAt A K G a D → PicAt A K G c D → DIns A.C (twoP A K) (.ref a) (.ref c) G := fun {a c G} h1 h2 => by
    have h1' := h1
    have h2' := h2
    obtain ⟨d1, _, _, _, _, _, g1, _⟩ := h1
    obtain ⟨d2, _, _, _, _, _, g2, _⟩ := h2
    exact ⟨a, c, d1, d2, _, _, rfl, rfl, g1, g2, D, h1', h2', hv⟩
  refine ⟨_, rfl, _, rfl, dins pic1 pic2, fun H4 e4 => ⟨_, _, rfl, rfl, true, rfl, ?_⟩⟩
  rw [if_pos rfl]
  refine ⟨_, rfl, _, rfl, dins (pic2.same e4) (pic1.same e4), fun H5 e5 => ⟨_, _, rfl, rfl, true, rfl, ?_⟩⟩
  rw [if_pos rfl]
  refine ⟨_, rfl, p, D, rfl, (pic1.same e4).same e5, hv, hl, fun H6 e6 => ⟨_, rfl, rfl, ?_⟩⟩
  rw [decide_eq_true rfl]
  exact q _ (((e12.trans e3).trans e4).trans (Same.trans e5 e6))
end
end Qb

/-! Kfacts -/
set_option Elab.async false
set_option linter.all false
set_option maxRecDepth 100000
set_option maxHeartbeats 2000000
/-! What the head's Hook says, in the words of the walk. -/
namespace Qb
open PySem PySem.Spec PyProof.Rows L2
theorem tupAt_ok {K : Frag} {a : Addr} {vs : List Str} (h : tupAt K a vs = true) (H : Hp) : SqT K H a (vs.map V.str) := by
  unfold tupAt at h
  cases q : K.lookup a with
  | none =>
    rw [q] at h
    cases h
  | some o =>
    obtain ⟨oc, od, dt, osl⟩ := o
    rw [q] at h
    cases oc with
    | type c =>
      cases dt with
      | seq its n =>
        obtain ⟨h1, h2⟩ := He.ba (show (decide (c = "tuple") && (decide (its.size ≤ sizeLine) && He.relAll (vs.map V.str) its.toList)) = true from h)
        obtain ⟨h3, h4⟩ := He.ba h2
        exact .inr ⟨_, its, n, q, congrArg Value.type (of_decide_eq_true h1), rfl, of_decide_eq_true h3, He.relAll_ok h4⟩
      | _ => cases h
    | _ => cases dt <;> cases h
theorem folB_ok {K : Frag} {w : World} {x : Str} {vs : List Str} {es : Array DictEntry} {n : Nat} (D : KDict K w (folK K) es n) (h : folB K x vs = true) : ∃ a, KDct K w (folK K) x (.ref a) ∧ ∀ H, SqT K H a (vs.map V.str) := by
  obtain ⟨h1, h2⟩ := He.ba h
  exact ⟨folV K x, ⟨es, n, _, D.at_, D.lit, He.eqO_ok h1, rfl⟩, tupAt_ok h2⟩
theorem excB_ok {K : Frag} {C : Addr} (h : excB K C = true) : ∃ nm q N bs bm sn sub ab col dd k0 k1 k2 k3 k5, K.lookup C = some (excClassObj nm q C N bs bm true sn sub ab col dd k0 k1 k2 k3 k5 "ValueError.__new__") ∧ PySem.HandSPX.refsVE bm = true := by
  unfold excB at h
  split at h
  · rename_i t dd cd sl ho
    split at h
    · rename_i C2 bm k0 k1 k2 k3 n k5 hm hs
      obtain ⟨h1, h⟩ := He.ba h
      obtain ⟨h2, h⟩ := He.ba h
      obtain ⟨h3, h⟩ := He.ba h
      obtain ⟨h4, h⟩ := He.ba h
      obtain ⟨h5, h6⟩ := He.ba h
      have e1 : t = "type" := of_decide_eq_true h1
      have e2 : C2 = C := of_decide_eq_true h2
      have e3 : n = "ValueError.__new__" := of_decide_eq_true h3
      obtain ⟨nm, bs, cm, ns, qn, hdc, sn, sub, ab, col, dl⟩ := cd
      dsimp only at hm h4 h5
      rw [Bool.not_eq_true'] at h4
      subst e1 e2 e3 hm h4 h5
      have hsl : sl = #[k0, k1, k2, k3, some (.builtin "ValueError.__new__"), k5] := by
        obtain ⟨l⟩ := sl
        simp only at hs
        rw [hs]
      subst hsl
      exact ⟨nm, qn, ns, bs, bm, sn, sub, ab, col, dd, k0, k1, k2, k3, k5, ho, h6⟩
    · cases h
  · cases h
/-- where the written things stand -/
def adK (K : Frag) : Ad := ⟨He.ga K "RESERVED", folK K, He.ga K "Picture", He.ga K "BadImage", He.ma K (He.ga K "BadImage") "__init__", He.ma K (He.ga K "Picture") "__init__", He.ma K (He.ga K "Picture") "__eq__"⟩
structure Say (w : World) (K : Frag) (mg : Str → Option Value) (h : Heap) : Prop where
  X : K.In h
  G : h.Ns mainGlobals mg
  d : He.SaysD faL fnL K
  T : Txt K mg w (adK K)
theorem says_txt {w : World} {K : Frag} {mg : Str → Option Value} {h : Heap} (X : K.In h) (G : h.Ns mainGlobals mg) (e : obsQ K = valQ w) : Say w K mg h := by
  have st : He.SaysT faL fnL tabs w K := congrArg (fun z : AlQ => z.1) e
  have eq : exq K = true := congrArg (fun z : AlQ => z.2) e
  have d := st.d
  obtain ⟨es, n, D⟩ := st.tab 0 rfl
  have D : KDict K w (folK K) es n := D
  unfold exq at eq
  obtain ⟨q1, eq⟩ := He.ba eq
  obtain ⟨f0, eq⟩ := He.ba eq
  obtain ⟨f1, eq⟩ := He.ba eq
  obtain ⟨f2, eq⟩ := He.ba eq
  obtain ⟨f3, eq⟩ := He.ba eq
  obtain ⟨f4, eq⟩ := He.ba eq
  obtain ⟨f5, eq⟩ := He.ba eq
  obtain ⟨f6, eq⟩ := He.ba eq
  obtain ⟨f7, eq⟩ := He.ba eq
  obtain ⟨x1, eq⟩ := He.ba eq
  obtain ⟨x2, eq⟩ := He.ba eq
  obtain ⟨x3, eq⟩ := He.ba eq
  obtain ⟨x4, eq⟩ := He.ba eq
  obtain ⟨x5, eq⟩ := He.ba eq
  obtain ⟨c1, eq⟩ := He.ba eq
  obtain ⟨c2, eq⟩ := He.ba eq
  obtain ⟨c3, eq⟩ := He.ba eq
  obtain ⟨c4, c5⟩ := He.ba eq
  have cl : Cls K (He.ga K "Picture") := He.cls_ok (d.fact 51 (f := .cls "Picture") rfl)
  have me := He.meth_ok (d.fact 58 (f := .meth "Picture" "__eq__") rfl)
  have mb := He.meth_ok (d.fact 70 (f := .meth "BadImage" "__init__") rfl)
  have fl : ∀ (x : T) (s : String) (vs : List Str), x = cs s → ((follow x).map S) = vs → folB K (Str.ofString s) vs = true → ∃ a, KDct K w (folK K) (S x) (.ref a) ∧ ∀ H, SqT K H a (((follow x).map S).map V.str) := fun x s vs ex ev hb => by
    rw [ev, ex, S_cs]
    exact folB_ok D hb
  exact ⟨X, G, d, {
    res := tupAt_ok q1
    fol := fun x hx => by
      rcases hx with hx | hx
      · exact fl x "" _ hx (by rw [hx]; decide +kernel) f0
      · unfold firsts at hx
        simp only [List.mem_cons, List.not_mem_nil, or_false] at hx
        rcases hx with z | z | z | z | z | z | z
        · exact fl x "static" _ z (by rw [z]; decide +kernel) f1
        · exact fl x "frame" _ z (by rw [z]; decide +kernel) f2
        · exact fl x "slots" _ z (by rw [z]; decide +kernel) f3
        · exact fl x "stack" _ z (by rw [z]; decide +kernel) f4
        · exact fl x "watched" _ z (by rw [z]; decide +kernel) f5
        · exact fl x "parted" _ z (by rw [z]; decide +kernel) f6
        · exact fl x "object" _ z (by rw [z]; decide +kernel) f7
    cls := cl
    nS := He.noat_ok (d.fact 53 (f := .noat "Picture" "statics") rfl)
    nF := He.noat_ok (d.fact 54 (f := .noat "Picture" "frames") rfl)
    nW := He.noat_ok (d.fact 55 (f := .noat "Picture" "watched") rfl)
    nP := He.noat_ok (d.fact 56 (f := .noat "Picture" "parted") rfl)
    nO := He.noat_ok (d.fact 57 (f := .noat "Picture" "objects") rfl)
    mkr := He.mkr_ok (d.fact 52 (f := .mkr "Picture") rfl)
    eqm := ⟨me.at_, me.fn⟩
    isp := fun H a dx fs ha => .base (.ins ha cl (He.eqO_ok c1) (He.eqO_ok c2) (of_decide_eq_true c3) (of_decide_eq_true c4))
    kit := of_decide_eq_true c5
    oex := ⟨excB_ok x1, He.eqO_ok x2, of_decide_eq_true x3, of_decide_eq_true x4, x5⟩
    bI := mb.at_
    bT := beq_iff_eq.mp mb.fn
    bL := He.noat_ok (d.fact 68 (f := .noat "BadImage" "line") rfl)
    bW := He.noat_ok (d.fact 69 (f := .noat "BadImage" "why") rfl)
    bE := He.exm_ok (d.fact 67 (f := .exm "BadImage" "BadImage" true) rfl)
    m_MIN := He.int_ok X G (d.fact 59 (f := .int "MIN_NUMBER" (-2147483648)) rfl)
    m_MAX := He.int_ok X G (d.fact 60 (f := .int "MAX_NUMBER" 2147483647) rfl)
    m_NIL := He.int_ok X G (d.fact 61 (f := .int "NIL" 0) rfl)
    m_PL := He.int_ok X G (d.fact 62 (f := .int "LAST_PLACE" 199) rfl)
    m_OB := He.int_ok X G (d.fact 63 (f := .int "LAST_OBJECT" 99999) rfl)
    m_LET := He.str_ok X G (d.fact 64 (f := .str "LETTERS" "abcdefghijklmnopqrstuvwxyz") rfl)
    m_DIG := He.str_ok X G (d.fact 65 (f := .str "DIGITS" "0123456789") rfl)
    m_FIG := He.str_ok X G (d.fact 66 (f := .str "FIGURES" "0123456789") rfl)
    m_RES := He.glo_ok X G (d.fact 39 (f := .glo "RESERVED") rfl)
    m_FOL := He.glo_ok X G (d.fact 40 (f := .glo "FOLLOWERS") rfl)
    m_PIC := He.glo_ok X G (d.fact 37 (f := .glo "Picture") rfl)
    m_BAD := He.glo_ok X G (d.fact 38 (f := .glo "BadImage") rfl)
    f_len := He.free_ok X G (d.fact 41 (f := .free "len") rfl)
    f_tuple := He.free_ok X G (d.fact 42 (f := .free "tuple") rfl)
    f_int := He.free_ok X G (d.fact 43 (f := .free "int") rfl)
    f_str := He.free_ok X G (d.fact 44 (f := .free "str") rfl)
    f_isinstance := He.free_ok X G (d.fact 45 (f := .free "isinstance") rfl)
    f_bool := He.free_ok X G (d.fact 46 (f := .free "bool") rfl)
    f_range := He.free_ok X G (d.fact 47 (f := .free "range") rfl)
    f_reversed := He.free_ok X G (d.fact 48 (f := .free "reversed") rfl)
    f_list := He.free_ok X G (d.fact 49 (f := .free "list") rfl) }⟩
end Qb

/-! Kend -/
set_option Elab.async false
set_option linter.all false
set_option maxRecDepth 100000
set_option maxHeartbeats 2000000
/-! Each def keeps its promise (printed by genend.py); the row. -/
namespace Qb
open PySem PySem.Spec PyProof.Rows L2
theorem c_BadImage_init {P : Program} {w : World} {K : Frag} {mg : Str → Option Value} {h : Heap} {base : Heap} (S : Say w K mg h) : CalI P w K mg base 1 (adK K).fB ["self", "line", "why"] (spBad (adK K) K) := by
  obtain ⟨fd, F0⟩ := S.d.def_ 37 (d := methD "BadImage" "__init__" "BadImage.__init__" 3 0) rfl
  have F : Fun K "__init__" "BadImage.__init__" (inClass (top 3) 0) (adK K).fB fd := He5.fun_of F0
  exact ⟨fd, ok_BadImage_init F S.T  (fun _ _ _ _ h => len_BadImage_init h) (fun _ _ _ _ h => pure_BadImage_init S.T h), F.binds fun _ _ _ _ _ _ us hl => match us, hl with | [_, _, _], _ => rfl⟩
theorem c_wrap {P : Program} {w : World} {K : Frag} {mg : Str → Option Value} {h : Heap} {base : Heap} (S : Say w K mg h) : Cal P w K mg base CX0 1 "wrap" ["n"] (sp_wrap (adK K) K) := by
  obtain ⟨fd, F0⟩ := S.d.def_ 0 (d := defD "wrap" 8) rfl
  have F : Fun K "wrap" "wrap" (top 8) (He.ga K "wrap") fd := He5.fun_of F0
  exact ⟨_, fd, ok_wrap F S.T  (fun _ _ _ _ h => len_wrap h) (fun _ _ _ _ h => pure_wrap h), He.glo_ok S.X S.G (S.d.fact 0 (f := .glo "wrap") rfl), F.kp, F.binds fun _ _ _ _ _ _ us hl => match us, hl with | [_], _ => rfl⟩
theorem c_reference_word {P : Program} {w : World} {K : Frag} {mg : Str → Option Value} {h : Heap} {base : Heap} (S : Say w K mg h) : Cal P w K mg base CX0 1 "reference_word" ["address"] (sp_reference_word (adK K) K) := by
  obtain ⟨fd, F0⟩ := S.d.def_ 2 (d := defD "reference_word" 10) rfl
  have F : Fun K "reference_word" "reference_word" (top 10) (He.ga K "reference_word") fd := He5.fun_of F0
  exact ⟨_, fd, ok_reference_word F S.T  (fun _ _ _ _ h => len_reference_word h) (fun _ _ _ _ h => pure_reference_word h), He.glo_ok S.X S.G (S.d.fact 2 (f := .glo "reference_word") rfl), F.kp, F.binds fun _ _ _ _ _ _ us hl => match us, hl with | [_], _ => rfl⟩
theorem c_is_number {P : Program} {w : World} {K : Frag} {mg : Str → Option Value} {h : Heap} {base : Heap} (S : Say w K mg h) : Cal P w K mg base CX0 1 "is_number" ["word"] (sp_is_number (adK K) K) := by
  obtain ⟨fd, F0⟩ := S.d.def_ 3 (d := defD "is_number" 11) rfl
  have F : Fun K "is_number" "is_number" (top 11) (He.ga K "is_number") fd := He5.fun_of F0
  exact ⟨_, fd, ok_is_number F S.T  (fun _ _ _ _ h => len_is_number h) (fun _ _ _ _ h => pure_is_number h), He.glo_ok S.X S.G (S.d.fact 3 (f := .glo "is_number") rfl), F.kp, F.binds fun _ _ _ _ _ _ us hl => match us, hl with | [_], _ => rfl⟩
theorem c_number_of {P : Program} {w : World} {K : Frag} {mg : Str → Option Value} {h : Heap} {base : Heap} (S : Say w K mg h) : Cal P w K mg base CX0 1 "number_of" ["word"] (sp_number_of (adK K) K) := by
  obtain ⟨fd, F0⟩ := S.d.def_ 4 (d := defD "number_of" 12) rfl
  have F : Fun K "number_of" "number_of" (top 12) (He.ga K "number_of") fd := He5.fun_of F0
  exact ⟨_, fd, ok_number_of F S.T  (fun _ _ _ _ h => len_number_of h) (fun _ _ _ _ h => pure_number_of h), He.glo_ok S.X S.G (S.d.fact 4 (f := .glo "number_of") rfl), F.kp, F.binds fun _ _ _ _ _ _ us hl => match us, hl with | [_], _ => rfl⟩
theorem c_address_of {P : Program} {w : World} {K : Frag} {mg : Str → Option Value} {h : Heap} {base : Heap} (S : Say w K mg h) : Cal P w K mg base CX0 1 "address_of" ["word"] (sp_address_of (adK K) K) := by
  obtain ⟨fd, F0⟩ := S.d.def_ 5 (d := defD "address_of" 13) rfl
  have F : Fun K "address_of" "address_of" (top 13) (He.ga K "address_of") fd := He5.fun_of F0
  exact ⟨_, fd, ok_address_of F S.T  (fun _ _ _ _ h => len_address_of h) (fun _ _ _ _ h => pure_address_of h), He.glo_ok S.X S.G (S.d.fact 5 (f := .glo "address_of") rfl), F.kp, F.binds fun _ _ _ _ _ _ us hl => match us, hl with | [_], _ => rfl⟩
theorem c_is_name {P : Program} {w : World} {K : Frag} {mg : Str → Option Value} {h : Heap} {base : Heap} (S : Say w K mg h) : Cal P w K mg base CX0 1 "is_name" ["text"] (sp_is_name (adK K) K) := by
  obtain ⟨fd, F0⟩ := S.d.def_ 6 (d := defD "is_name" 18) rfl
  have F : Fun K "is_name" "is_name" (top 18) (He.ga K "is_name") fd := He5.fun_of F0
  exact ⟨_, fd, ok_is_name F S.T  (fun _ _ _ _ h => len_is_name h) (fun _ _ _ _ h => pure_is_name S.T h), He.glo_ok S.X S.G (S.d.fact 6 (f := .glo "is_name") rfl), F.kp, F.binds fun _ _ _ _ _ _ us hl => match us, hl with | [_], _ => rfl⟩
theorem c_Picture_init {P : Program} {w : World} {K : Frag} {mg : Str → Option Value} {h : Heap} {base : Heap} (S : Say w K mg h) : CalI P w K mg base 1 (adK K).fP ["self", "statics", "frames", "watched", "parted", "objects"] (spPic (adK K) K) := by
  obtain ⟨fd, F0⟩ := S.d.def_ 38 (d := methD "Picture" "__init__" "Picture.__init__" 20 0) rfl
  have F : Fun K "__init__" "Picture.__init__" (inClass (top 20) 0) (adK K).fP fd := He5.fun_of F0
  exact ⟨fd, ok_Picture_init F S.T  (fun _ _ _ _ h => len_Picture_init h) (fun _ _ _ _ h => pure_Picture_init S.T h), F.binds fun _ _ _ _ _ _ us hl => match us, hl with | [_, _, _, _, _, _], _ => rfl⟩
theorem c_Picture_eq {P : Program} {w : World} {K : Frag} {mg : Str → Option Value} {h : Heap} {base : Heap} (S : Say w K mg h) : CalI P w K mg base 1 (adK K).fE ["self", "other"] (spPeq (adK K) K) := by
  obtain ⟨fd, F0⟩ := S.d.def_ 39 (d := methD "Picture" "__eq__" "Picture.__eq__" 20 2) rfl
  have F : Fun K "__eq__" "Picture.__eq__" (inClass (top 20) 2) (adK K).fE fd := He5.fun_of F0
  exact ⟨fd, ok_Picture_eq F S.T  (fun _ _ _ _ h => len_Picture_eq h) (fun _ _ _ _ h => pure_Picture_eq S.T h), F.binds fun _ _ _ _ _ _ us hl => match us, hl with | [_, _], _ => rfl⟩
theorem c_integer_of {P : Program} {w : World} {K : Frag} {mg : Str → Option Value} {h : Heap} {base : Heap} (S : Say w K mg h) : Cal P w K mg base CX0 1 "integer_of" ["word"] (sp_integer_of (adK K) K) := by
  obtain ⟨fd, F0⟩ := S.d.def_ 7 (d := defD "integer_of" 23) rfl
  have F : Fun K "integer_of" "integer_of" (top 23) (He.ga K "integer_of") fd := He5.fun_of F0
  exact ⟨_, fd, ok_integer_of F S.T  (fun _ _ _ _ h => len_integer_of h) (fun _ _ _ _ h => pure_integer_of h), He.glo_ok S.X S.G (S.d.fact 7 (f := .glo "integer_of") rfl), F.kp, F.binds fun _ _ _ _ _ _ us hl => match us, hl with | [_], _ => rfl⟩
theorem c__law_whole {P : Program} {w : World} {K : Frag} {mg : Str → Option Value} {h : Heap} {base : Heap} (S : Say w K mg h) : Cal P w K mg base CX0 1 "_law_whole" ["_law_value"] (sp__law_whole (adK K) K) := by
  obtain ⟨fd, F0⟩ := S.d.def_ 19 (d := defD "_law_whole" 41) rfl
  have F : Fun K "_law_whole" "_law_whole" (top 41) (He.ga K "_law_whole") fd := He5.fun_of F0
  exact ⟨_, fd, ok__law_whole F S.T  (fun _ _ _ _ h => len__law_whole h) (fun _ _ _ _ h => pure__law_whole h), He.glo_ok S.X S.G (S.d.fact 19 (f := .glo "_law_whole") rfl), F.kp, F.binds fun _ _ _ _ _ _ us hl => match us, hl with | [_], _ => rfl⟩
theorem c__law_cell {P : Program} {w : World} {K : Frag} {mg : Str → Option Value} {h : Heap} {base : Heap} (S : Say w K mg h) : Cal P w K mg base CX0 1 "_law_cell" ["_law_script", "_law_k"] (sp__law_cell (adK K) K) := by
  obtain ⟨fd, F0⟩ := S.d.def_ 20 (d := defD "_law_cell" 42) rfl
  have F : Fun K "_law_cell" "_law_cell" (top 42) (He.ga K "_law_cell") fd := He5.fun_of F0
  exact ⟨_, fd, ok__law_cell F S.T  (fun _ _ _ _ h => len__law_cell h) (fun _ _ _ _ h => pure__law_cell h), He.glo_ok S.X S.G (S.d.fact 20 (f := .glo "_law_cell") rfl), F.kp, F.binds fun _ _ _ _ _ _ us hl => match us, hl with | [_, _], _ => rfl⟩
theorem c__law_digits {P : Program} {w : World} {K : Frag} {mg : Str → Option Value} {h : Heap} {base : Heap} (S : Say w K mg h) : Cal P w K mg base CX0 1 "_law_digits" ["_law_cell_here", "_law_sizes"] (sp__law_digits (adK K) K) := by
  obtain ⟨fd, F0⟩ := S.d.def_ 21 (d := defD "_law_digits" 43) rfl
  have F : Fun K "_law_digits" "_law_digits" (top 43) (He.ga K "_law_digits") fd := He5.fun_of F0
  exact ⟨_, fd, ok__law_digits F S.T  (fun _ _ _ _ h => len__law_digits h) (fun _ _ _ _ h => pure__law_digits h), He.glo_ok S.X S.G (S.d.fact 21 (f := .glo "_law_digits") rfl), F.kp, F.binds fun _ _ _ _ _ _ us hl => match us, hl with | [_, _], _ => rfl⟩
theorem c__law_word {P : Program} {w : World} {K : Frag} {mg : Str → Option Value} {h : Heap} {base : Heap} (S : Say w K mg h) : Cal P w K mg base CX0 1 "_law_word" ["_law_a", "_law_b"] (sp__law_word (adK K) K) := by
  obtain ⟨fd, F0⟩ := S.d.def_ 22 (d := defD "_law_word" 44) rfl
  have F : Fun K "_law_word" "_law_word" (top 44) (He.ga K "_law_word") fd := He5.fun_of F0
  exact ⟨_, fd, ok__law_word F S.T  (fun _ _ _ _ h => len__law_word h) (fun _ _ _ _ h => pure__law_word h), He.glo_ok S.X S.G (S.d.fact 22 (f := .glo "_law_word") rfl), F.kp, F.binds fun _ _ _ _ _ _ us hl => match us, hl with | [_, _], _ => rfl⟩
theorem c__law_name {P : Program} {w : World} {K : Frag} {mg : Str → Option Value} {h : Heap} {base : Heap} (S : Say w K mg h) : Cal P w K mg base CX0 1 "_law_name" ["_law_row_here"] (sp__law_name (adK K) K) := by
  obtain ⟨fd, F0⟩ := S.d.def_ 24 (d := defD "_law_name" 46) rfl
  have F : Fun K "_law_name" "_law_name" (top 46) (He.ga K "_law_name") fd := He5.fun_of F0
  exact ⟨_, fd, ok__law_name F S.T  (fun _ _ _ _ h => len__law_name h) (fun _ _ _ _ h => pure__law_name h), He.glo_ok S.X S.G (S.d.fact 24 (f := .glo "_law_name") rfl), F.kp, F.binds fun _ _ _ _ _ _ us hl => match us, hl with | [_], _ => rfl⟩
theorem c__law_said {P : Program} {w : World} {K : Frag} {mg : Str → Option Value} {h : Heap} {base : Heap} (S : Say w K mg h) : Cal P w K mg base CX0 1 "_law_said" ["_law_word_here"] (sp__law_said (adK K) K) := by
  obtain ⟨fd, F0⟩ := S.d.def_ 26 (d := defD "_law_said" 48) rfl
  have F : Fun K "_law_said" "_law_said" (top 48) (He.ga K "_law_said") fd := He5.fun_of F0
  exact ⟨_, fd, ok__law_said F S.T  (fun _ _ _ _ h => len__law_said h) (fun _ _ _ _ h => pure__law_said h), He.glo_ok S.X S.G (S.d.fact 26 (f := .glo "_law_said") rfl), F.kp, F.binds fun _ _ _ _ _ _ us hl => match us, hl with | [_], _ => rfl⟩
theorem c__law_aimed {P : Program} {w : World} {K : Frag} {mg : Str → Option Value} {h : Heap} {base : Heap} (S : Say w K mg h) : Cal P w K mg base CX0 1 "_law_aimed" ["_law_lines", "_law_deed", "_law_one", "_law_two", "_law_three"] (sp__law_aimed (adK K) K) := by
  obtain ⟨fd, F0⟩ := S.d.def_ 29 (d := defD "_law_aimed" 51) rfl
  have F : Fun K "_law_aimed" "_law_aimed" (top 51) (He.ga K "_law_aimed") fd := He5.fun_of F0
  exact ⟨_, fd, ok__law_aimed F S.T  (fun _ _ _ _ h => len__law_aimed h) (fun _ _ _ _ h => pure__law_aimed h), He.glo_ok S.X S.G (S.d.fact 29 (f := .glo "_law_aimed") rfl), F.kp, F.binds fun _ _ _ _ _ _ us hl => match us, hl with | [_, _, _, _, _], _ => rfl⟩
theorem c__law_same_picture {P : Program} {w : World} {K : Frag} {mg : Str → Option Value} {h : Heap} {base : Heap} (S : Say w K mg h) : Cal P w K mg base CX0 1 "_law_same_picture" ["_law_picture", "_law_due"] (sp__law_same_picture (adK K) K) := by
  obtain ⟨fd, F0⟩ := S.d.def_ 33 (d := defD "_law_same_picture" 55) rfl
  have F : Fun K "_law_same_picture" "_law_same_picture" (top 55) (He.ga K "_law_same_picture") fd := He5.fun_of F0
  exact ⟨_, fd, ok__law_same_picture F S.T  (fun _ _ _ _ h => len__law_same_picture h) (fun _ _ _ _ h => pure__law_same_picture S.T h), He.glo_ok S.X S.G (S.d.fact 33 (f := .glo "_law_same_picture") rfl), F.kp, F.binds fun _ _ _ _ _ _ us hl => match us, hl with | [_, _], _ => rfl⟩
theorem c_number_word {P : Program} {w : World} {K : Frag} {mg : Str → Option Value} {h : Heap} {base : Heap} (S : Say w K mg h) : Cal P w K mg base CX0 2 "number_word" ["n"] (sp_number_word (adK K) K) := by
  obtain ⟨fd, F0⟩ := S.d.def_ 1 (d := defD "number_word" 9) rfl
  have F : Fun K "number_word" "number_word" (top 9) (He.ga K "number_word") fd := He5.fun_of F0
  exact ⟨_, fd, ok_number_word F S.T (c_wrap S) (fun _ _ _ _ h => len_number_word h) (fun _ _ _ _ h => pure_number_word h), He.glo_ok S.X S.G (S.d.fact 1 (f := .glo "number_word") rfl), F.kp, F.binds fun _ _ _ _ _ _ us hl => match us, hl with | [_], _ => rfl⟩
theorem c_word_text {P : Program} {w : World} {K : Frag} {mg : Str → Option Value} {h : Heap} {base : Heap} (S : Say w K mg h) : Cal P w K mg base CX0 2 "word_text" ["word"] (sp_word_text (adK K) K) := by
  obtain ⟨fd, F0⟩ := S.d.def_ 8 (d := defD "word_text" 27) rfl
  have F : Fun K "word_text" "word_text" (top 27) (He.ga K "word_text") fd := He5.fun_of F0
  exact ⟨_, fd, ok_word_text F S.T (c_is_number S) (c_number_of S) (c_address_of S) (fun _ _ _ _ h => len_word_text h) (fun _ _ _ _ h => pure_word_text h), He.glo_ok S.X S.G (S.d.fact 8 (f := .glo "word_text") rfl), F.kp, F.binds fun _ _ _ _ _ _ us hl => match us, hl with | [_], _ => rfl⟩
theorem c_integer_between {P : Program} {w : World} {K : Frag} {mg : Str → Option Value} {h : Heap} {base : Heap} (S : Say w K mg h) : Cal P w K mg base CX0 2 "integer_between" ["text", "least", "most"] (sp_integer_between (adK K) K) := by
  obtain ⟨fd, F0⟩ := S.d.def_ 10 (d := defD "integer_between" 29) rfl
  have F : Fun K "integer_between" "integer_between" (top 29) (He.ga K "integer_between") fd := He5.fun_of F0
  exact ⟨_, fd, ok_integer_between F S.T (c_integer_of S) (fun _ _ _ _ h => len_integer_between h) (fun _ _ _ _ h => pure_integer_between h), He.glo_ok S.X S.G (S.d.fact 10 (f := .glo "integer_between") rfl), F.kp, F.binds fun _ _ _ _ _ _ us hl => match us, hl with | [_, _, _], _ => rfl⟩
theorem c__law_words {P : Program} {w : World} {K : Frag} {mg : Str → Option Value} {h : Heap} {base : Heap} (S : Say w K mg h) : Cal P w K mg base CX0 2 "_law_words" ["_law_cell_here", "_law_many"] (sp__law_words (adK K) K) := by
  obtain ⟨fd, F0⟩ := S.d.def_ 23 (d := defD "_law_words" 45) rfl
  have F : Fun K "_law_words" "_law_words" (top 45) (He.ga K "_law_words") fd := He5.fun_of F0
  exact ⟨_, fd, ok__law_words F S.T (c__law_digits S) (c__law_word S) (fun _ _ _ _ h => len__law_words h) (fun _ _ _ _ h => pure__law_words h), He.glo_ok S.X S.G (S.d.fact 23 (f := .glo "_law_words") rfl), F.kp, F.binds fun _ _ _ _ _ _ us hl => match us, hl with | [_, _], _ => rfl⟩
theorem c__law_line {P : Program} {w : World} {K : Frag} {mg : Str → Option Value} {h : Heap} {base : Heap} (S : Say w K mg h) : Cal P w K mg base CX0 2 "_law_line" ["_law_first", "_law_words_here"] (sp__law_line (adK K) K) := by
  obtain ⟨fd, F0⟩ := S.d.def_ 27 (d := defD "_law_line" 49) rfl
  have F : Fun K "_law_line" "_law_line" (top 49) (He.ga K "_law_line") fd := He5.fun_of F0
  exact ⟨_, fd, ok__law_line F S.T (c__law_said S) (fun _ _ _ _ h => len__law_line h) (fun _ _ _ _ h => pure__law_line h), He.glo_ok S.X S.G (S.d.fact 27 (f := .glo "_law_line") rfl), F.kp, F.binds fun _ _ _ _ _ _ us hl => match us, hl with | [_, _], _ => rfl⟩
theorem c__law_edited {P : Program} {w : World} {K : Frag} {mg : Str → Option Value} {h : Heap} {base : Heap} (S : Say w K mg h) : Cal P w K mg base CX0 2 "_law_edited" ["_law_text_here", "_law_row_here"] (sp__law_edited (adK K) K) := by
  obtain ⟨fd, F0⟩ := S.d.def_ 30 (d := defD "_law_edited" 52) rfl
  have F : Fun K "_law_edited" "_law_edited" (top 52) (He.ga K "_law_edited") fd := He5.fun_of F0
  exact ⟨_, fd, ok__law_edited F S.T (c__law_aimed S) (fun _ _ _ _ h => len__law_edited h) (fun _ _ _ _ h => pure__law_edited h), He.glo_ok S.X S.G (S.d.fact 30 (f := .glo "_law_edited") rfl), F.kp, F.binds fun _ _ _ _ _ _ us hl => match us, hl with | [_, _], _ => rfl⟩
theorem c__law_row {P : Program} {w : World} {K : Frag} {mg : Str → Option Value} {h : Heap} {base : Heap} (S : Say w K mg h) : Cal P w K mg base CX0 2 "_law_row" ["_law_words_here"] (sp__law_row (adK K) K) := by
  obtain ⟨fd, F0⟩ := S.d.def_ 31 (d := defD "_law_row" 53) rfl
  have F : Fun K "_law_row" "_law_row" (top 53) (He.ga K "_law_row") fd := He5.fun_of F0
  exact ⟨_, fd, ok__law_row F S.T (c__law_whole S) (fun _ _ _ _ h => len__law_row h) (fun _ _ _ _ h => pure__law_row h), He.glo_ok S.X S.G (S.d.fact 31 (f := .glo "_law_row") rfl), F.kp, F.binds fun _ _ _ _ _ _ us hl => match us, hl with | [_], _ => rfl⟩
theorem c_line_text {P : Program} {w : World} {K : Frag} {mg : Str → Option Value} {h : Heap} {base : Heap} (S : Say w K mg h) : Cal P w K mg base CX0 3 "line_text" ["first", "words"] (sp_line_text (adK K) K) := by
  obtain ⟨fd, F0⟩ := S.d.def_ 9 (d := defD "line_text" 28) rfl
  have F : Fun K "line_text" "line_text" (top 28) (He.ga K "line_text") fd := He5.fun_of F0
  exact ⟨_, fd, ok_line_text F S.T (c_word_text S) (fun _ _ _ _ h => len_line_text h) (fun _ _ _ _ h => pure_line_text h), He.glo_ok S.X S.G (S.d.fact 9 (f := .glo "line_text") rfl), F.kp, F.binds fun _ _ _ _ _ _ us hl => match us, hl with | [_, _], _ => rfl⟩
theorem c_word_of {P : Program} {w : World} {K : Frag} {mg : Str → Option Value} {h : Heap} {base : Heap} (S : Say w K mg h) : Cal P w K mg base CX0 3 "word_of" ["text"] (sp_word_of (adK K) K) := by
  obtain ⟨fd, F0⟩ := S.d.def_ 11 (d := defD "word_of" 30) rfl
  have F : Fun K "word_of" "word_of" (top 30) (He.ga K "word_of") fd := He5.fun_of F0
  exact ⟨_, fd, ok_word_of F S.T (c_integer_between S) (c_reference_word S) (c_number_word S) (fun _ _ _ _ h => len_word_of h) (fun _ _ _ _ h => pure_word_of h), He.glo_ok S.X S.G (S.d.fact 11 (f := .glo "word_of") rfl), F.kp, F.binds fun _ _ _ _ _ _ us hl => match us, hl with | [_], _ => rfl⟩
theorem c_frame_content {P : Program} {w : World} {K : Frag} {mg : Str → Option Value} {h : Heap} {base : Heap} (S : Say w K mg h) : Cal P w K mg base CX0 3 "frame_content" ["texts"] (sp_frame_content (adK K) K) := by
  obtain ⟨fd, F0⟩ := S.d.def_ 13 (d := defD "frame_content" 32) rfl
  have F : Fun K "frame_content" "frame_content" (top 32) (He.ga K "frame_content") fd := He5.fun_of F0
  exact ⟨_, fd, ok_frame_content F S.T (c_is_name S) (c_integer_between S) (fun _ _ _ _ h => len_frame_content h) (fun _ _ _ _ h => pure_frame_content h), He.glo_ok S.X S.G (S.d.fact 13 (f := .glo "frame_content") rfl), F.kp, F.binds fun _ _ _ _ _ _ us hl => match us, hl with | [_], _ => rfl⟩
theorem c__law_free {P : Program} {w : World} {K : Frag} {mg : Str → Option Value} {h : Heap} {base : Heap} (S : Say w K mg h) : Cal P w K mg base CX0 3 "_law_free" ["_law_script", "_law_at"] (sp__law_free (adK K) K) := by
  obtain ⟨fd, F0⟩ := S.d.def_ 25 (d := defD "_law_free" 47) rfl
  have F : Fun K "_law_free" "_law_free" (top 47) (He.ga K "_law_free") fd := He5.fun_of F0
  exact ⟨_, fd, ok__law_free F S.T (c__law_cell S) (c__law_digits S) (c__law_words S) (c__law_name S) (fun _ _ _ _ h => len__law_free h) (fun _ _ _ _ h => pure__law_free h), He.glo_ok S.X S.G (S.d.fact 25 (f := .glo "_law_free") rfl), F.kp, F.binds fun _ _ _ _ _ _ us hl => match us, hl with | [_, _], _ => rfl⟩
theorem c__law_text {P : Program} {w : World} {K : Frag} {mg : Str → Option Value} {h : Heap} {base : Heap} (S : Say w K mg h) : Cal P w K mg base CX0 3 "_law_text" ["_law_data"] (sp__law_text (adK K) K) := by
  obtain ⟨fd, F0⟩ := S.d.def_ 28 (d := defD "_law_text" 50) rfl
  have F : Fun K "_law_text" "_law_text" (top 50) (He.ga K "_law_text") fd := He5.fun_of F0
  exact ⟨_, fd, ok__law_text F S.T (c__law_line S) (fun _ _ _ _ h => len__law_text h) (fun _ _ _ _ h => pure__law_text h), He.glo_ok S.X S.G (S.d.fact 28 (f := .glo "_law_text") rfl), F.kp, F.binds fun _ _ _ _ _ _ us hl => match us, hl with | [_], _ => rfl⟩
theorem c__law_sound {P : Program} {w : World} {K : Frag} {mg : Str → Option Value} {h : Heap} {base : Heap} (S : Say w K mg h) : Cal P w K mg base CX0 3 "_law_sound" ["_law_picture"] (sp__law_sound (adK K) K) := by
  obtain ⟨fd, F0⟩ := S.d.def_ 32 (d := defD "_law_sound" 54) rfl
  have F : Fun K "_law_sound" "_law_sound" (top 54) (He.ga K "_law_sound") fd := He5.fun_of F0
  exact ⟨_, fd, ok__law_sound F S.T (c__law_row S) (c__law_whole S) (fun _ _ _ _ h => len__law_sound h) (fun _ _ _ _ h => pure__law_sound S.T h), He.glo_ok S.X S.G (S.d.fact 32 (f := .glo "_law_sound") rfl), F.kp, F.binds fun _ _ _ _ _ _ us hl => match us, hl with | [_], _ => rfl⟩
theorem c_words_of {P : Program} {w : World} {K : Frag} {mg : Str → Option Value} {h : Heap} {base : Heap} (S : Say w K mg h) : Cal P w K mg base CX0 4 "words_of" ["texts"] (sp_words_of (adK K) K) := by
  obtain ⟨fd, F0⟩ := S.d.def_ 12 (d := defD "words_of" 31) rfl
  have F : Fun K "words_of" "words_of" (top 31) (He.ga K "words_of") fd := He5.fun_of F0
  exact ⟨_, fd, ok_words_of F S.T (c_word_of S) (fun _ _ _ _ h => len_words_of h) (fun _ _ _ _ h => pure_words_of h), He.glo_ok S.X S.G (S.d.fact 12 (f := .glo "words_of") rfl), F.kp, F.binds fun _ _ _ _ _ _ us hl => match us, hl with | [_], _ => rfl⟩
theorem c_write_image {P : Program} {w : World} {K : Frag} {mg : Str → Option Value} {h : Heap} {base : Heap} (S : Say w K mg h) : Cal P w K mg base CX0 4 "write_image" ["picture"] (sp_write_image (adK K) K) := by
  obtain ⟨fd, F0⟩ := S.d.def_ 16 (d := defD "write_image" 37) rfl
  have F : Fun K "write_image" "write_image" (top 37) (He.ga K "write_image") fd := He5.fun_of F0
  exact ⟨_, fd, ok_write_image F S.T (c_line_text S) (fun _ _ _ _ h => len_write_image h) (fun _ _ _ _ h => pure_write_image S.T h), He.glo_ok S.X S.G (S.d.fact 16 (f := .glo "write_image") rfl), F.kp, F.binds fun _ _ _ _ _ _ us hl => match us, hl with | [_], _ => rfl⟩
theorem c_object_content {P : Program} {w : World} {K : Frag} {mg : Str → Option Value} {h : Heap} {base : Heap} (S : Say w K mg h) : Cal P w K mg base CX0 5 "object_content" ["texts"] (sp_object_content (adK K) K) := by
  obtain ⟨fd, F0⟩ := S.d.def_ 14 (d := defD "object_content" 33) rfl
  have F : Fun K "object_content" "object_content" (top 33) (He.ga K "object_content") fd := He5.fun_of F0
  exact ⟨_, fd, ok_object_content F S.T (c_is_name S) (c_words_of S) (fun _ _ _ _ h => len_object_content h) (fun _ _ _ _ h => pure_object_content h), He.glo_ok S.X S.G (S.d.fact 14 (f := .glo "object_content") rfl), F.kp, F.binds fun _ _ _ _ _ _ us hl => match us, hl with | [_], _ => rfl⟩
theorem c_line_content {P : Program} {w : World} {K : Frag} {mg : Str → Option Value} {h : Heap} {base : Heap} (S : Say w K mg h) : Cal P w K mg base CX0 6 "line_content" ["texts"] (sp_line_content (adK K) K) := by
  obtain ⟨fd, F0⟩ := S.d.def_ 15 (d := defD "line_content" 34) rfl
  have F : Fun K "line_content" "line_content" (top 34) (He.ga K "line_content") fd := He5.fun_of F0
  exact ⟨_, fd, ok_line_content F S.T (c_frame_content S) (c_object_content S) (c_words_of S) (fun _ _ _ _ h => len_line_content h) (fun _ _ _ _ h => pure_line_content h), He.glo_ok S.X S.G (S.d.fact 15 (f := .glo "line_content") rfl), F.kp, F.binds fun _ _ _ _ _ _ us hl => match us, hl with | [_], _ => rfl⟩
theorem c_read_lines {P : Program} {w : World} {K : Frag} {mg : Str → Option Value} {h : Heap} {base : Heap} (S : Say w K mg h) : Cal P w K mg base (L2.CX P w) 7 "read_lines" ["text"] (sp_read_lines (adK K) K) := by
  obtain ⟨fd, F0⟩ := S.d.def_ 17 (d := defD "read_lines" 38) rfl
  have F : Fun K "read_lines" "read_lines" (top 38) (He.ga K "read_lines") fd := He5.fun_of F0
  exact ⟨_, fd, ok_read_lines F S.T (c_line_content S) (c_BadImage_init S) (fun _ _ _ _ h => len_read_lines h) (fun _ _ _ _ h => pure_read_lines S.T h), He.glo_ok S.X S.G (S.d.fact 17 (f := .glo "read_lines") rfl), F.kp, F.binds fun _ _ _ _ _ _ us hl => match us, hl with | [_], _ => rfl⟩
theorem c_read_image {P : Program} {w : World} {K : Frag} {mg : Str → Option Value} {h : Heap} {base : Heap} (S : Say w K mg h) : Cal P w K mg base (L2.CX P w) 8 "read_image" ["text"] (sp_read_image (adK K) K) := by
  obtain ⟨fd, F0⟩ := S.d.def_ 18 (d := defD "read_image" 39) rfl
  have F : Fun K "read_image" "read_image" (top 39) (He.ga K "read_image") fd := He5.fun_of F0
  exact ⟨_, fd, ok_read_image F S.T (c_read_lines S) (c_Picture_init S) (fun _ _ _ _ h => len_read_image h) (fun _ _ _ _ h => pure_read_image S.T h), He.glo_ok S.X S.G (S.d.fact 18 (f := .glo "read_image") rfl), F.kp, F.binds fun _ _ _ _ _ _ us hl => match us, hl with | [_], _ => rfl⟩
theorem k_read_image {P : Program} {w : World} {K : Frag} {mg : Str → Option Value} {h : Heap} {base : Heap} (S : Say w K mg h) : CalK P w K mg base (L2.CX P w) 8 "read_image" "text" (sp_read_image (adK K) K) := by
  obtain ⟨fd, F0⟩ := S.d.def_ 18 (d := defD "read_image" 39) rfl
  have F : Fun K "read_image" "read_image" (top 39) (He.ga K "read_image") fd := He5.fun_of F0
  refine ⟨_, fd, ok_read_image F S.T (c_read_lines S) (c_Picture_init S) (fun _ _ _ _ h => len_read_image h) (fun _ _ _ _ h => pure_read_image S.T h), He.glo_ok S.X S.G (S.d.fact 18 (f := .glo "read_image") rfl), F.kp, ?_⟩
  obtain ⟨oc, od, kw0, doc, pm, an, cv, ct, osl, rfl, lk, hc0⟩ := F.ex
  exact fun s u _ => .of_eq rfl
theorem c__law_own_text {P : Program} {w : World} {K : Frag} {mg : Str → Option Value} {h : Heap} {base : Heap} (S : Say w K mg h) : Cal P w K mg base CX0 9 "_law_own_text" ["_law_text_here"] (sp__law_own_text (adK K) K) := by
  obtain ⟨fd, F0⟩ := S.d.def_ 35 (d := defD "_law_own_text" 57) rfl
  have F : Fun K "_law_own_text" "_law_own_text" (top 57) (He.ga K "_law_own_text") fd := He5.fun_of F0
  exact ⟨_, fd, ok__law_own_text F S.T (c_read_image S) (c__law_sound S) (c_write_image S) (fun _ _ _ _ h => len__law_own_text h) (fun _ _ _ _ h => pure__law_own_text S.T h), He.glo_ok S.X S.G (S.d.fact 35 (f := .glo "_law_own_text") rfl), F.kp, F.binds fun _ _ _ _ _ _ us hl => match us, hl with | [_], _ => rfl⟩
theorem c__law_back {P : Program} {w : World} {K : Frag} {mg : Str → Option Value} {h : Heap} {base : Heap} (S : Say w K mg h) : Cal P w K mg base CX0 9 "_law_back" ["_law_text_here", "_law_due"] (sp__law_back (adK K) K) := by
  obtain ⟨fd, F0⟩ := S.d.def_ 34 (d := defD "_law_back" 56) rfl
  have F : Fun K "_law_back" "_law_back" (top 56) (He.ga K "_law_back") fd := He5.fun_of F0
  exact ⟨_, fd, ok__law_back F S.T (k_read_image S) (c__law_sound S) (c__law_same_picture S) (c_write_image S) (c_Picture_init S) (c_Picture_eq S) (fun _ _ _ _ h => len__law_back h) (fun _ _ _ _ h => pure__law_back S.T h), He.glo_ok S.X S.G (S.d.fact 34 (f := .glo "_law_back") rfl), F.kp, F.binds fun _ _ _ _ _ _ us hl => match us, hl with | [_, _], _ => rfl⟩
theorem law_ok {P : Program} {w : World} {K : Frag} {mg : Str → Option Value} {h : Heap} (S : Say w K mg h) : ∃ fd, (∀ (s : Shared) (v : Value), BindsTo s fd ⟨[v], []⟩ [("_law_script", v)]) ∧ ∀ base : Heap, FnOk P w K mg base CX0 10 (He.ga K "law") fd ["_law_script"] (sp_law (adK K) K) := by
  obtain ⟨fd, F0⟩ := S.d.def_ 36 (d := defD "law" 58) rfl
  have F : Fun K "law" "law" (top 58) (He.ga K "law") fd := He5.fun_of F0
  have b := FunD.bindsA (ps := ["_law_script"]) F0 fun _ _ _ _ _ _ us hl => match us, hl with | [_], _ => rfl
  exact ⟨fd, fun s v => b s [v] rfl, fun base => ok_law F S.T (c__law_free S) (c__law_text S) (c__law_back S) (c__law_cell S) (c__law_digits S) (c__law_edited S) (c__law_own_text S) (fun _ _ _ _ h => len_law h) (fun _ _ _ _ h => pure_law h)⟩
end Qb
open PySem PySem.W PySem.Calls PyProof.Rows
theorem PySem.Challenge.cw_quietbroom_k86_image_back_whole_holds : PySem.Challenge.rw_quietbroom_k86_image_back_whole.Holds := by
  w_on; o_law
  refine HandSHeadRun.head_any (r := OpenLaw.row PySem.Challenge.rw_quietbroom_k86_image_back_whole) (q := view (OpenLaw.row PySem.Challenge.rw_quietbroom_k86_image_back_whole).prog [58]) (H := Qb.hookQ) (ob := Qb.ob) (M := 3000) (loose := Qb.loose)
    (d := HandSHeadRun.topDef (OpenLaw.row PySem.Challenge.rw_quietbroom_k86_image_back_whole).prog 58) (kwd := []) Qb.ob_eq (by kernel_rfl) (fun s => by kernel_rfl) Qb.run (by kernel_rfl) (by kernel_rfl) (by kernel_rfl) (by rfl)
    (by first | assumption | decide +kernel) (by decide +kernel) ⟨rfl, rfl, rfl, rfl, rfl, by decide +kernel⟩ ?hw ?hc
  case hw => w_witness2
  case hc =>
    refine L2.walk_ofE (l := PySem.Challenge.rw_quietbroom_k86_image_back_whole) (n := 63) (k := 10) (x := "_law_script") (CX := L2.CX0) rfl (by decide) (by kernel_rfl) ⟨rfl, by decide, by decide⟩ ?F (fun _ _ _ _ z => z)
    intro w mg fa h Y G hmg0
    obtain ⟨K, KX, c⟩ := Y
    have hmg : mg ("law" : PySem.Str) = some (.ref fa) := by
      have e : (HandSHeadRun.topDef (OpenLaw.row PySem.Challenge.rw_quietbroom_k86_image_back_whole).prog 58).name = ("law" : PySem.Str) := by kernel_rfl
      rw [← e]
      exact hmg0
    have S := Qb.says_txt KX G c
    have e := hmg.symm.trans (He.glo_ok KX G (S.d.fact 36 (f := .glo "law") rfl))
    cases e
    obtain ⟨fd, hb, hF⟩ := Qb.law_ok (P := (PySem.Challenge.rw_quietbroom_k86_image_back_whole).prog) S
    exact ⟨K, fd, Qb.sp_law (Qb.adK K) K, KX, hb, fun H a ns hl _ hS => ⟨a, ns, rfl, hS, hl, fun _ => rfl⟩, fun base _ _ => hF base⟩
